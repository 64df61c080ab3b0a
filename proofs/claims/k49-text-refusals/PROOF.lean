import PyProof.Rows.All
import HandS.Base
import HandS.Words
import HandS.Call
import HandS.Exc
import HandS.Head0
import HandS.Head1
import HandS.Head2
import HandS.HeadHook1
import HandS.HeadHook2
import HandS.HeadHook3
import KE.KNestM
import Wide.All
import OpenK.AllK
import Wide.FinOn
import HandS.ForMost
import HandS.TryOnly
import HandS.ExcOwn
import HandS.CallSlots
import HandS.ExcCtx
import HandS.TryMany
import HandS.Nested
import HandS.Wide
import HandS.TupAny
import HandS.TupMul
import HandS.Deep
import HandS.IsInst
import PyProof.StrOps2
import HandS.WordsExc
import HandS.EndBits
import HandS.RaiseMore
import HandS.ExcInitHot
import HandS.ExcField
import HandS.ExcIs
import KE.KExcIs
import PyProof.RulesMatch
import HandS.NoneIn
import HandS.More
import HandS.Property
import HandS.Style
import HandS.DictComp
import KE.KRevSl
import HandS.DictEq
import HandS.HotCalls
import HandS.SetFor
import HandS.Text
import HandS.Iter
import HandS.TupLe
import HandS.SuiteRaise
import HandS.RaiseFrom
import HandS.HeadEnd
import HandS.EndTab
import PySem.Challenge.RW_patchfacts_k49_text_refusals
set_option Elab.async false
set_option linter.all false
set_option maxRecDepth 100000
set_option maxHeartbeats 2000000
set_option maxRecDepth 100000
set_option maxHeartbeats 2000000
set_option autoImplicit false
section
variable {A : Type _} {x y : A} {l : List A} {n : Nat}
theorem gz_ : (x :: l)[0]? = some x := rfl
theorem gs_ : (x :: l)[n + 1]? = l[n]? := rfl
theorem sz_ : (x :: l).set 0 y = y :: l := rfl
theorem ss_ : (x :: l).set (n + 1) y = x :: l.set n y := rfl
end
namespace VL
open PySem PySem.Spec PyProof.Rows L2
abbrev Fr : Type := PySem.W.Frag
section
variable {o : Option (Option Value)} {p : Option Bool} {v : Option Value} {r : Option (List Value)}
def tR (o : Option (Option Value)) : Bool := match o with | some (some (.ref _)) => true | _ => false
def aR (o : Option (Option Value)) : Addr := match o with | some (some (.ref a)) => a | _ => 0
theorem tR_ok (h : tR o = true) : o = some (some (.ref (aR o))) := by
  cases o with
  | none => cases h
  | some o => cases o with
    | none => cases h
    | some v => cases v <;> first | rfl | cases h
def tN (o : Option (Option Value)) : Bool := match o with | some none => true | _ => false
theorem tN_ok (h : tN o = true) : o = some none := by
  cases o with
  | none => cases h
  | some o => cases o with
    | none => rfl
    | some v => cases h
def tB (o : Option (Option Value)) (n : String) : Bool := match o with | some (some (.builtin m)) => decide (m = n) | _ => false
theorem tB_ok {n : String} (h : tB o n = true) : o = some (some (.builtin n)) := by
  cases o with
  | none => cases h
  | some o => cases o with
    | none => cases h
    | some v =>
      cases v <;> first | cases h | skip
      case builtin m =>
        have e : m = n := of_decide_eq_true h
        rw [e]
def tO (p : Option Bool) (b : Bool) : Bool := match p with | some c => c == b | none => false
theorem tO_ok {b : Bool} (h : tO p b = true) : p = some b := by
  cases p with
  | none => cases h
  | some c =>
    have e : c = b := beq_iff_eq.mp h
    rw [e]
def tT (v : Option Value) (n : String) : Bool := match v with | some (.type m) => decide (m = n) | _ => false
theorem tT_ok {n : String} (h : tT v n = true) : v = some (.type n) := by
  cases v with
  | none => cases h
  | some v =>
    cases v <;> first | cases h | skip
    case type m =>
      have e : m = n := of_decide_eq_true h
      rw [e]
def kT (o : Option (Option Value)) : Tok := match o with | some (some (.int _ t)) => t | some (some (.str _ t)) => t | _ => default
def tI (o : Option (Option Value)) (i : Int) : Bool := match o with | some (some (.int j _)) => decide (j = i) | _ => false
theorem tI_ok {i : Int} (h : tI o i = true) : o = some (some (.int i (kT o))) := by
  cases o with
  | none => cases h
  | some o => cases o with
    | none => cases h
    | some v =>
      cases v <;> first | cases h | skip
      case int j t =>
        have e : j = i := of_decide_eq_true h
        subst e
        rfl
def tS (o : Option (Option Value)) (s : Str) : Bool := match o with | some (some (.str z _)) => decide (z = s) | _ => false
theorem tS_ok {s : Str} (h : tS o s = true) : o = some (some (.str s (kT o))) := by
  cases o with
  | none => cases h
  | some o => cases o with
    | none => cases h
    | some v =>
      cases v <;> first | cases h | skip
      case str z t =>
        have e : z = s := of_decide_eq_true h
        subst e
        rfl
end
def gA (K : Fr) (x : Str) : Addr := aR (PySem.W.nsIn K mainGlobals x)
def mA (K : Fr) (C : Addr) (m : Str) : Addr := aR (PySem.W.findIn K (.ref C) m)
structure FnT where
  at_ : Fr → Addr
  name : Str
  qual : Str
  st : Stmt
abbrev FnAt (K : Fr) (f : Addr) (n q : Str) (st : Stmt) : Prop := ∃ (oc : Value) (od : Option Addr) (sl : Array (Option Value)) (kV dc pm : Value) (an : Option Addr) (cd ct : Value),
  K.lookup f = some ⟨oc, od, .func (PySem.W.fnOf n q (defArgs st) (defBody st) (defScope st) .none kV dc pm an cd ct), sl⟩ ∧ PySem.W.codeIn K cd q = true ∧ PySem.W.keepIn K (.ref f) = true
def fnT (K : Fr) (f : Addr) : He.FnV := match K.lookup f with
  | some ⟨_, _, .func fd, _⟩ => some (fd.name, fd.qualname, fd.params, fd.body, fd.scope, fd.globals, fd.closure, fd.defaults, fd.builtins)
  | _ => none
def FnT.val (d : FnT) : He.FnV := some (d.name, d.qual, defArgs d.st, .stmts (defBody d.st), defScope d.st, mainGlobals, [], .none, builtinsNs)
def FnT.ok (K : Fr) (d : FnT) : Bool := match K.lookup (d.at_ K) with
  | some ⟨_, _, .func fd, _⟩ => PySem.W.codeIn K fd.code d.qual && PySem.W.keepIn K (.ref (d.at_ K))
  | _ => false
theorem FnT.get {K : Fr} {d : FnT} (e : fnT K (d.at_ K) = d.val) (c : d.ok K = true) : FnAt K (d.at_ K) d.name d.qual d.st := by
  unfold fnT at e
  unfold FnT.ok at c
  cases z : K.lookup (d.at_ K) with
  | none => rw [z] at c; cases c
  | some b =>
    obtain ⟨u1, u2, u3, u4⟩ := b
    rw [z] at c e
    cases u3 <;> first | cases c | skip
    case func fd =>
      obtain ⟨w1, w2, w3, w4, w5, w6, w7, w8, w9, w10, w11, w12, w13, w14, w15⟩ := fd
      have e : (some (w1, w2, w3, w4, w5, w6, w7, w8, w15) : He.FnV) = some (d.name, d.qual, defArgs d.st, .stmts (defBody d.st), defScope d.st, mainGlobals, [], .none, builtinsNs) := e
      simp only [Option.some.injEq, Prod.mk.injEq] at e
      obtain ⟨e1, e2, e3, e4, e5, e6, e7, e8, e9⟩ := e
      subst e1 e2 e3 e4 e5 e6 e7 e8 e9
      have c : (PySem.W.codeIn K w13 d.qual && PySem.W.keepIn K (.ref (d.at_ K))) = true := c
      obtain ⟨c1, c2⟩ := Bool.and_eq_true_iff.mp c
      exact ⟨u1, u2, u4, w9, w10, w11, w12, w13, w14, z, c1, c2⟩
def xT (K : Fr) (C : Addr) : Bool := match K.lookup C with
  | some ⟨.type T, _, .cls cd, sl⟩ => (match cd.mro, sl.toList with
    | .ref B :: bm, [_, _, _, _, some (.builtin n), _] => (decide (B = C) && decide (n = "ValueError.__new__")) && ((decide (T = "type") && !cd.hasDel) && (cd.hasDict && PySem.HandSPX.refsVE bm))
    | _, _ => false)
  | _ => false
abbrev ExAt (K : Fr) (C : Addr) : Prop := ∃ (nm q : Str) (N : Addr) (bs bm : List Value) (sn : List Str) (sb : List Value) (ab : Bool) (co : Option Bool) (dd : Option Addr) (m0 m1 m2 m3 m5 : Option Value),
  K.lookup C = some (excClassObj nm q C N bs bm true sn sb ab co dd m0 m1 m2 m3 m5 "ValueError.__new__") ∧ PySem.HandSPX.refsVE bm = true
theorem xT_ok {K : Fr} {C : Addr} (h : xT K C = true) : ExAt K C := by
  unfold xT at h
  split at h
  · rename_i T dd cd sl ho
    split at h
    · rename_i B bm k0 k1 k2 k3 n k5 hm hs
      obtain ⟨h1, h2⟩ := Bool.and_eq_true_iff.mp h
      obtain ⟨h3, h4⟩ := Bool.and_eq_true_iff.mp h1
      obtain ⟨h5, h6⟩ := Bool.and_eq_true_iff.mp h2
      obtain ⟨h7, h8⟩ := Bool.and_eq_true_iff.mp h5
      obtain ⟨h9, h10⟩ := Bool.and_eq_true_iff.mp h6
      have e3 : B = C := of_decide_eq_true h3
      have e4 : n = "ValueError.__new__" := of_decide_eq_true h4
      have e7 : T = "type" := of_decide_eq_true h7
      have e8 : cd.hasDel = false := by
        cases q : cd.hasDel with
        | false => rfl
        | true => rw [q] at h8; cases h8
      have e9 : cd.hasDict = true := h9
      clear h h1 h2 h3 h4 h5 h6 h7 h8 h9
      obtain ⟨nm, bs, mro, ns, qn, hd, sn, sub, ab, col, del⟩ := cd
      dsimp only at hm e8 e9
      subst hm
      subst e8
      subst e9
      subst e3
      subst e4
      subst e7
      have hsl : sl = #[k0, k1, k2, k3, some (.builtin "ValueError.__new__"), k5] := by
        obtain ⟨l⟩ := sl
        simp only at hs
        rw [hs]
      subst hsl
      exact ⟨nm, qn, ns, bs, bm, sn, sub, ab, col, dd, k0, k1, k2, k3, k5, ho, h10⟩
    · cases h
  · cases h
def entT (e : DictEntry) : Option (Str × Int) := match e.key, e.val with
  | .str z _, .int m _ => some (z, m)
  | _, _ => none
abbrev DcV : Type := Option (List (Option (Str × Int)) × List (Option (Str × Int)))
def dcT (K : Fr) (a : Addr) : DcV := match K.lookup a with
  | some ⟨.type c, none, .dict es _, sl⟩ => (match decide (c = "dict") && (sl.isEmpty && !(a == sysModules)) with
    | true => some (es.toList.map He.keyOf, es.toList.map entT)
    | false => none)
  | _ => none
abbrev DcAt (K : Fr) (P : Params) (a : Addr) (l : List (Str × Int)) : Prop := ∃ (es : Array DictEntry) (n : Nat), K.lookup a = some ⟨.type "dict", none, .dict es n, #[]⟩ ∧ PySem.W.KeysLit P es.toList ∧ (a == sysModules) = false ∧ es.toList.map entT = l.map some
theorem dcT_ok {K : Fr} {P : Params} {a : Addr} {l : List (Str × Int)} (h : dcT K a = some (He.keysIn P (l.map (·.1)), l.map some)) : DcAt K P a l := by
  unfold dcT at h
  split at h
  · rename_i c es n sl ho
    split at h
    · rename_i hc
      obtain ⟨h1, h2⟩ := Bool.and_eq_true_iff.mp hc
      obtain ⟨h3, h4⟩ := Bool.and_eq_true_iff.mp h2
      have h1 := of_decide_eq_true h1
      have h3 : sl = #[] := Array.isEmpty_iff.mp h3
      subst h1 h3
      have h := Option.some.inj h
      refine ⟨es, n, ho, He.keysLit_of (congrArg (·.1) h), ?_, congrArg (·.2) h⟩
      cases q : (a == sysModules) with
      | false => rfl
      | true => rw [q] at h4; cases h4
    · cases h
  · cases h
structure TopT where
  ts : List (Fr → Bool)
  fn : List FnT
  dc : List (Str × List (Str × Int))
abbrev AlT : Type := Bool × (List He.FnV × List DcV)
def obsT (t : TopT) (K : Fr) : AlT := ((t.ts.all fun f => f K) && t.fn.all fun d => d.ok K, t.fn.map fun d => fnT K (d.at_ K), t.dc.map fun d => dcT K (gA K d.1))
def valT (t : TopT) (P : Params) : AlT := (true, t.fn.map FnT.val, t.dc.map fun d => some (He.keysIn P (d.2.map (·.1)), d.2.map some))
def SaysT (t : TopT) (P : Params) (K : Fr) : Prop := obsT t K = valT t P
def adrT (lo n : Nat) : List Addr := mainGlobals :: (List.range (n - lo)).map fun i => i + lo
section
variable {t : TopT} {P : Params} {K : Fr}
theorem SaysT.test (c : SaysT t P K) (i : Nat) {f : Fr → Bool} (h : t.ts[i]? = some f) : f K = true := by
  have c1 : ((t.ts.all fun f => f K) && t.fn.all fun d => d.ok K) = true := congrArg (fun z : AlT => z.1) c
  exact List.all_eq_true.mp (Bool.and_eq_true_iff.mp c1).1 f (List.mem_of_getElem? h)
theorem SaysT.defn (c : SaysT t P K) (i : Nat) {d : FnT} (h : t.fn[i]? = some d) : FnAt K (d.at_ K) d.name d.qual d.st := by
  have c1 : ((t.ts.all fun f => f K) && t.fn.all fun d => d.ok K) = true := congrArg (fun z : AlT => z.1) c
  have c2 : t.fn.map (fun d => fnT K (d.at_ K)) = t.fn.map FnT.val := congrArg (fun z : AlT => z.2.1) c
  have e : (t.fn.map fun d => fnT K (d.at_ K))[i]? = (t.fn.map FnT.val)[i]? := by rw [c2]
  rw [List.getElem?_map, List.getElem?_map, h] at e
  exact FnT.get (Option.some.inj e) (List.all_eq_true.mp (Bool.and_eq_true_iff.mp c1).2 d (List.mem_of_getElem? h))
theorem SaysT.dict (c : SaysT t P K) (i : Nat) {d : Str × List (Str × Int)} (h : t.dc[i]? = some d) : DcAt K P (gA K d.1) d.2 := by
  have c2 : (t.dc.map fun d => dcT K (gA K d.1)) = t.dc.map fun d => some (He.keysIn P (d.2.map (·.1)), d.2.map some) := congrArg (fun z : AlT => z.2.2) c
  have e : (t.dc.map fun d => dcT K (gA K d.1))[i]? = (t.dc.map fun d => (some (He.keysIn P (d.2.map (·.1)), d.2.map some) : DcV))[i]? := by rw [c2]
  rw [List.getElem?_map, List.getElem?_map, h] at e
  exact dcT_ok (Option.some.inj e)
end
end VL

set_option maxRecDepth 100000
set_option maxHeartbeats 2000000
set_option autoImplicit false
namespace VL
open PySem PySem.Spec PyProof.Rows L2
theorem frG_out {g : Addr → Option Obj} {a : Addr} : ∀ {as : List Addr}, a ∉ as → (He.frG g as).lookup a = none
  | [], _ => rfl
  | b :: r, h => by
    have hb : a ≠ b := fun e => h (by rw [e]; exact List.mem_cons_self ..)
    have hr : a ∉ r := fun m => h (List.mem_cons_of_mem _ m)
    have ih := frG_out (g := g) hr
    unfold He.frG at ih ⊢
    rw [List.filterMap_cons]
    cases q : g b with
    | none => exact ih
    | some o =>
      have e : (a == b) = false := beq_false_of_ne hb
      show List.lookup a ((b, o) :: _) = none
      rw [List.lookup_cons, e]
      exact ih
def adrP (lo n Pt : Nat) : List Addr := (adrT lo n).filter fun a => a != Pt
theorem adrP_out {lo n Pt : Nat} : Pt ∉ adrP lo n Pt := fun m => by
  have q := (List.mem_filter.mp m).2
  simp at q
def hookP (lo : Nat) (t : TopT) (Pt : Addr) : PySem.W.Hook where
  α := AlT × Option Obj
  obs := fun s => (obsT t (He.frG s.heap.get? (adrP lo s.heap.objs.size Pt)), s.heap.get? Pt)
  val := fun w => (valT t w.params, some (PySem.W.tabObj #[]))
  says := fun w h => (∃ K : Fr, K.In h ∧ K.lookup Pt = none ∧ SaysT t w.params K) ∧ h.get? Pt = some (PySem.W.tabObj #[])
  of := fun _ _ e => ⟨⟨_, He.frG_in, frG_out adrP_out, congrArg Prod.fst e⟩, congrArg Prod.snd e⟩
  keeps := fun _ _ _ ⟨⟨K, hK, n, c⟩, p⟩ k => ⟨⟨K, PySem.W.Frag.In.keeps hK k, n, c⟩, k _ _ p⟩
def obP (lo : Nat) (t : TopT) (Pt : Addr) (s : PySem.W.SharedT) : AlT × Option Obj := (obsT t (He.frG (HandSHeadRun.getT s) (adrP lo s.n Pt)), HandSHeadRun.getT s Pt)
theorem obP_eq (lo : Nat) (t : TopT) (Pt : Addr) (s : PySem.W.SharedT) : obP lo t Pt s = (hookP lo t Pt).obs s.abs := by
  have e : HandSHeadRun.getT s = s.abs.heap.get? := funext (HandSHeadRun.getT_eq s)
  have e2 : s.abs.heap.objs.size = s.n := PySem.W.absHeap_size s.tree s.n s.life
  unfold obP
  rw [e, ← e2]
  rfl
def cT (K : Fr) (x : Str) : Addr := match PySem.W.tabIn K x with
  | some (c, _) => c
  | _ => 0
def tTab (o : Option (Addr × Addr)) (P : Addr) : Bool := match o with
  | some (_, p) => p == P
  | _ => false
theorem tTab_ok {K : Fr} {x : Str} {P : Addr} (h : tTab (PySem.W.tabIn K x) P = true) : PySem.W.tabIn K x = some (cT K x, P) := by
  unfold cT
  cases q : PySem.W.tabIn K x with
  | none => rw [q] at h; cases h
  | some cp =>
    obtain ⟨c, p⟩ := cp
    rw [q] at h
    have e : p = P := beq_iff_eq.mp h
    rw [e]
end VL

namespace VL
open PySem L2
set_option maxHeartbeats 0
def topS (i : Nat) : Stmt := PySem.Challenge.pw_patchfacts_k49_text_refusals.main.body.getD i (.Pass ⟨0, 0, 0, 0⟩)
abbrev s__law_draw : Stmt := topS 24
abbrev s__law_names : Stmt := topS 25
abbrev s__law_raw_run : Stmt := topS 26
abbrev s__law_raw_fact : Stmt := topS 27
abbrev s__law_char : Stmt := topS 28
abbrev s__law_spoilt_text : Stmt := topS 29
abbrev s__law_many : Stmt := topS 39
abbrev s__law_text : Stmt := topS 40
abbrev s__law_is_name : Stmt := topS 30
abbrev s__law_is_good_run : Stmt := topS 31
abbrev s__law_is_run : Stmt := topS 34
abbrev s__law_is_fact : Stmt := topS 35
abbrev s_is_name : Stmt := topS 14
abbrev s_is_step : Stmt := topS 15
abbrev s_check_run : Stmt := topS 16
abbrev s_run_of : Stmt := topS 18
abbrev s_read_run : Stmt := topS 20
abbrev s_fact_of : Stmt := topS 19
abbrev s_read_fact : Stmt := topS 21
abbrev s__law_is_integer : Stmt := topS 37
abbrev s__law_refused_line : Stmt := topS 38
abbrev s__law_one : Stmt := topS 41
abbrev s_read_book : Stmt := topS 22
abbrev s_take : Stmt := (defBody s_read_book).getD 2 (.Pass ⟨0, 0, 0, 0⟩)
abbrev s__law_same_facts : Stmt := topS 36
abbrev s__law_is_good_fact : Stmt := topS 32
abbrev s__law_read_fact : Stmt := topS 33
abbrev s__law_all : Stmt := topS 42
abbrev s_law : Stmt := topS 43
def tops : TopT where
  ts := ([fun K => xT K (gA K "BadRun"),
    fun K => xT K (gA K "BadLine"),
    fun K => tR (PySem.W.nsIn K mainGlobals "_law_draw"),
    fun K => tR (PySem.W.nsIn K mainGlobals "_law_names"),
    fun K => tR (PySem.W.nsIn K mainGlobals "_law_raw_run"),
    fun K => tR (PySem.W.nsIn K mainGlobals "_law_raw_fact"),
    fun K => tR (PySem.W.nsIn K mainGlobals "_law_char"),
    fun K => tR (PySem.W.nsIn K mainGlobals "_law_spoilt_text"),
    fun K => tR (PySem.W.nsIn K mainGlobals "_law_many"),
    fun K => tR (PySem.W.nsIn K mainGlobals "_law_text"),
    fun K => tR (PySem.W.nsIn K mainGlobals "_law_is_name"),
    fun K => tR (PySem.W.nsIn K mainGlobals "_law_is_good_run"),
    fun K => tR (PySem.W.nsIn K mainGlobals "_law_is_run"),
    fun K => tR (PySem.W.nsIn K mainGlobals "_law_is_fact"),
    fun K => tR (PySem.W.nsIn K mainGlobals "is_name"),
    fun K => tR (PySem.W.nsIn K mainGlobals "is_step"),
    fun K => tR (PySem.W.nsIn K mainGlobals "check_run"),
    fun K => tR (PySem.W.nsIn K mainGlobals "run_of"),
    fun K => tR (PySem.W.nsIn K mainGlobals "read_run"),
    fun K => tR (PySem.W.nsIn K mainGlobals "fact_of"),
    fun K => tR (PySem.W.nsIn K mainGlobals "read_fact"),
    fun K => tR (PySem.W.nsIn K mainGlobals "_law_is_integer"),
    fun K => tR (PySem.W.nsIn K mainGlobals "_law_refused_line"),
    fun K => tR (PySem.W.nsIn K mainGlobals "_law_one"),
    fun K => tR (PySem.W.nsIn K mainGlobals "read_book")] : List (Fr → Bool)) ++
  ([fun K => tR (PySem.W.nsIn K mainGlobals "_law_same_facts"),
    fun K => tR (PySem.W.nsIn K mainGlobals "_law_is_good_fact"),
    fun K => tR (PySem.W.nsIn K mainGlobals "_law_read_fact"),
    fun K => tR (PySem.W.nsIn K mainGlobals "_law_all"),
    fun K => tR (PySem.W.nsIn K mainGlobals "law"),
    fun K => tN (PySem.W.nsIn K mainGlobals "int"),
    fun K => tN (PySem.W.nsIn K mainGlobals "len"),
    fun K => tN (PySem.W.nsIn K mainGlobals "range"),
    fun K => tN (PySem.W.nsIn K mainGlobals "isinstance"),
    fun K => tN (PySem.W.nsIn K mainGlobals "tuple"),
    fun K => tN (PySem.W.nsIn K mainGlobals "str"),
    fun K => tN (PySem.W.nsIn K mainGlobals "bool"),
    fun K => tN (PySem.W.nsIn K mainGlobals "ValueError"),
    fun K => tN (PySem.W.nsIn K mainGlobals "list"),
    fun K => tI (PySem.W.nsIn K mainGlobals "LONGEST_NAME") 12,
    fun K => tS (PySem.W.nsIn K mainGlobals "LETTERS") "abcdefghijklmnopqrstuvwxyz",
    fun K => tS (PySem.W.nsIn K mainGlobals "DIGITS") "0123456789",
    fun K => tTab (PySem.W.tabIn K "read_book") 214,
    fun K => PySem.W.codeHdIn K (cT K "read_book") 214,
    fun K => tR (PySem.W.nsIn K mainGlobals "BadRun"),
    fun K => tO (PySem.W.subIn K (.ref (gA K "BadRun")) (.type "BaseException")) true,
    fun K => tT (PySem.W.typeIn K (.ref (gA K "BadRun"))) "type",
    fun K => PySem.W.isClsIn K (gA K "BadRun"),
    fun K => tO (PySem.W.subIn K (.ref (gA K "BadRun")) (.ref (gA K "BadRun"))) true,
    fun K => tR (PySem.W.nsIn K mainGlobals "BadLine")] : List (Fr → Bool)) ++
  ([fun K => tO (PySem.W.subIn K (.ref (gA K "BadLine")) (.type "BaseException")) true,
    fun K => tT (PySem.W.typeIn K (.ref (gA K "BadLine"))) "type",
    fun K => PySem.W.isClsIn K (gA K "BadLine"),
    fun K => tO (PySem.W.subIn K (.ref (gA K "BadLine")) (.ref (gA K "BadLine"))) true,
    fun K => tR (PySem.W.nsIn K mainGlobals "PatchError"),
    fun K => tO (PySem.W.subIn K (.ref (gA K "PatchError")) (.type "BaseException")) true,
    fun K => tT (PySem.W.typeIn K (.ref (gA K "PatchError"))) "type",
    fun K => PySem.W.isClsIn K (gA K "PatchError"),
    fun K => tO (PySem.W.subIn K (.ref (gA K "PatchError")) (.ref (gA K "PatchError"))) true,
    fun K => tR (PySem.W.nsIn K mainGlobals "BadFact"),
    fun K => tO (PySem.W.subIn K (.ref (gA K "BadFact")) (.type "BaseException")) true,
    fun K => tT (PySem.W.typeIn K (.ref (gA K "BadFact"))) "type",
    fun K => PySem.W.isClsIn K (gA K "BadFact"),
    fun K => tO (PySem.W.subIn K (.ref (gA K "BadFact")) (.ref (gA K "BadFact"))) true,
    fun K => tR (PySem.W.nsIn K mainGlobals "BadStore"),
    fun K => tO (PySem.W.subIn K (.ref (gA K "BadStore")) (.type "BaseException")) true,
    fun K => tT (PySem.W.typeIn K (.ref (gA K "BadStore"))) "type",
    fun K => PySem.W.isClsIn K (gA K "BadStore"),
    fun K => tO (PySem.W.subIn K (.ref (gA K "BadStore")) (.ref (gA K "BadStore"))) true,
    fun K => tR (PySem.W.nsIn K mainGlobals "UnknownStart"),
    fun K => tO (PySem.W.subIn K (.ref (gA K "UnknownStart")) (.type "BaseException")) true,
    fun K => tT (PySem.W.typeIn K (.ref (gA K "UnknownStart"))) "type",
    fun K => PySem.W.isClsIn K (gA K "UnknownStart"),
    fun K => tO (PySem.W.subIn K (.ref (gA K "UnknownStart")) (.ref (gA K "UnknownStart"))) true,
    fun K => tR (PySem.W.nsIn K mainGlobals "NoStore")] : List (Fr → Bool)) ++
  ([fun K => tO (PySem.W.subIn K (.ref (gA K "NoStore")) (.type "BaseException")) true,
    fun K => tT (PySem.W.typeIn K (.ref (gA K "NoStore"))) "type",
    fun K => PySem.W.isClsIn K (gA K "NoStore"),
    fun K => tO (PySem.W.subIn K (.ref (gA K "NoStore")) (.ref (gA K "NoStore"))) true,
    fun K => tR (PySem.W.nsIn K mainGlobals "NotForced"),
    fun K => tO (PySem.W.subIn K (.ref (gA K "NotForced")) (.type "BaseException")) true,
    fun K => tT (PySem.W.typeIn K (.ref (gA K "NotForced"))) "type",
    fun K => PySem.W.isClsIn K (gA K "NotForced"),
    fun K => tO (PySem.W.subIn K (.ref (gA K "NotForced")) (.ref (gA K "NotForced"))) true,
    fun K => tR (PySem.W.nsIn K mainGlobals "NoFact"),
    fun K => tO (PySem.W.subIn K (.ref (gA K "NoFact")) (.type "BaseException")) true,
    fun K => tT (PySem.W.typeIn K (.ref (gA K "NoFact"))) "type",
    fun K => PySem.W.isClsIn K (gA K "NoFact"),
    fun K => tO (PySem.W.subIn K (.ref (gA K "NoFact")) (.ref (gA K "NoFact"))) true,
    fun K => PySem.W.keepIn K (.ref (gA K "BadRun")),
    fun K => tB (PySem.W.findIn K (.ref (gA K "BadRun")) "__getattribute__") "BaseException.__getattribute__",
    fun K => tN (PySem.W.findIn K (.ref (gA K "BadRun")) "__getattr__"),
    fun K => PySem.W.hasDictIn K (gA K "BadRun"),
    fun K => tB (PySem.W.findIn K (.ref (gA K "BadRun")) "__class__") "object.__class__",
    fun K => tO (PySem.W.mroIn K (gA K "BadRun") (.type "object")) true,
    fun K => tB (PySem.W.findIn K (.ref (gA K "BadRun")) "__setattr__") "object.__setattr__",
    fun K => tR (PySem.W.findIn K (.ref (gA K "BadRun")) "__init__"),
    fun K => tT (PySem.W.typeIn K (.ref (mA K (gA K "BadRun") "__init__"))) "function",
    fun K => tN (PySem.W.findIn K (.ref (gA K "BadRun")) "run"),
    fun K => tO (PySem.W.subIn K (.ref (gA K "BadRun")) (.ref (gA K "PatchError"))) true] : List (Fr → Bool)) ++
  ([fun K => tO (PySem.W.subIn K (.ref (gA K "BadRun")) (.ref (gA K "BadFact"))) false,
    fun K => tO (PySem.W.subIn K (.ref (gA K "BadRun")) (.ref (gA K "BadStore"))) false,
    fun K => tO (PySem.W.subIn K (.ref (gA K "BadRun")) (.ref (gA K "UnknownStart"))) false,
    fun K => tO (PySem.W.subIn K (.ref (gA K "BadRun")) (.ref (gA K "NoStore"))) false,
    fun K => tO (PySem.W.subIn K (.ref (gA K "BadRun")) (.ref (gA K "NotForced"))) false,
    fun K => tO (PySem.W.subIn K (.ref (gA K "BadRun")) (.ref (gA K "NoFact"))) false,
    fun K => tO (PySem.W.subIn K (.ref (gA K "BadRun")) (.ref (gA K "BadLine"))) false,
    fun K => PySem.W.keepIn K (.ref (gA K "BadLine")),
    fun K => tB (PySem.W.findIn K (.ref (gA K "BadLine")) "__getattribute__") "BaseException.__getattribute__",
    fun K => tN (PySem.W.findIn K (.ref (gA K "BadLine")) "__getattr__"),
    fun K => PySem.W.hasDictIn K (gA K "BadLine"),
    fun K => tB (PySem.W.findIn K (.ref (gA K "BadLine")) "__class__") "object.__class__",
    fun K => tO (PySem.W.mroIn K (gA K "BadLine") (.type "object")) true,
    fun K => tB (PySem.W.findIn K (.ref (gA K "BadLine")) "__setattr__") "object.__setattr__",
    fun K => tR (PySem.W.findIn K (.ref (gA K "BadLine")) "__init__"),
    fun K => tT (PySem.W.typeIn K (.ref (mA K (gA K "BadLine") "__init__"))) "function",
    fun K => tN (PySem.W.findIn K (.ref (gA K "BadLine")) "line"),
    fun K => tO (PySem.W.subIn K (.ref (gA K "BadLine")) (.ref (gA K "BadRun"))) false,
    fun K => tO (PySem.W.subIn K (.ref (gA K "BadLine")) (.ref (gA K "PatchError"))) true,
    fun K => tO (PySem.W.subIn K (.ref (gA K "BadLine")) (.ref (gA K "BadFact"))) false,
    fun K => tO (PySem.W.subIn K (.ref (gA K "BadLine")) (.ref (gA K "BadStore"))) false,
    fun K => tO (PySem.W.subIn K (.ref (gA K "BadLine")) (.ref (gA K "UnknownStart"))) false,
    fun K => tO (PySem.W.subIn K (.ref (gA K "BadLine")) (.ref (gA K "NoStore"))) false,
    fun K => tO (PySem.W.subIn K (.ref (gA K "BadLine")) (.ref (gA K "NotForced"))) false,
    fun K => tO (PySem.W.subIn K (.ref (gA K "BadLine")) (.ref (gA K "NoFact"))) false] : List (Fr → Bool)) ++
  ([fun K => tB (PySem.W.specialIn K (.builtin "object.__class__") "__get__") "getset_descriptor.__get__",
    fun K => tO (PySem.W.takesIn K (.builtin "object.__class__")) true,
    fun K => tO (PySem.W.subIn K (.ref (gA K "BadRun")) (.type "ValueError")) true,
    fun K => tO (PySem.W.subIn K (.ref (gA K "BadLine")) (.type "ValueError")) true] : List (Fr → Bool))
  fn := ([⟨fun K => (gA K "_law_draw"), "_law_draw", "_law_draw", s__law_draw⟩,
    ⟨fun K => (gA K "_law_names"), "_law_names", "_law_names", s__law_names⟩,
    ⟨fun K => (gA K "_law_raw_run"), "_law_raw_run", "_law_raw_run", s__law_raw_run⟩,
    ⟨fun K => (gA K "_law_raw_fact"), "_law_raw_fact", "_law_raw_fact", s__law_raw_fact⟩,
    ⟨fun K => (gA K "_law_char"), "_law_char", "_law_char", s__law_char⟩,
    ⟨fun K => (gA K "_law_spoilt_text"), "_law_spoilt_text", "_law_spoilt_text", s__law_spoilt_text⟩,
    ⟨fun K => (gA K "_law_many"), "_law_many", "_law_many", s__law_many⟩,
    ⟨fun K => (gA K "_law_text"), "_law_text", "_law_text", s__law_text⟩,
    ⟨fun K => (gA K "_law_is_name"), "_law_is_name", "_law_is_name", s__law_is_name⟩,
    ⟨fun K => (gA K "_law_is_good_run"), "_law_is_good_run", "_law_is_good_run", s__law_is_good_run⟩,
    ⟨fun K => (gA K "_law_is_run"), "_law_is_run", "_law_is_run", s__law_is_run⟩,
    ⟨fun K => (gA K "_law_is_fact"), "_law_is_fact", "_law_is_fact", s__law_is_fact⟩,
    ⟨fun K => (gA K "is_name"), "is_name", "is_name", s_is_name⟩,
    ⟨fun K => (gA K "is_step"), "is_step", "is_step", s_is_step⟩,
    ⟨fun K => (gA K "check_run"), "check_run", "check_run", s_check_run⟩,
    ⟨fun K => (gA K "run_of"), "run_of", "run_of", s_run_of⟩,
    ⟨fun K => (gA K "read_run"), "read_run", "read_run", s_read_run⟩,
    ⟨fun K => (gA K "fact_of"), "fact_of", "fact_of", s_fact_of⟩,
    ⟨fun K => (gA K "read_fact"), "read_fact", "read_fact", s_read_fact⟩,
    ⟨fun K => (gA K "_law_is_integer"), "_law_is_integer", "_law_is_integer", s__law_is_integer⟩,
    ⟨fun K => (gA K "_law_refused_line"), "_law_refused_line", "_law_refused_line", s__law_refused_line⟩,
    ⟨fun K => (gA K "_law_one"), "_law_one", "_law_one", s__law_one⟩,
    ⟨fun K => (gA K "read_book"), "read_book", "read_book", s_read_book⟩,
    ⟨fun K => (gA K "_law_same_facts"), "_law_same_facts", "_law_same_facts", s__law_same_facts⟩,
    ⟨fun K => (gA K "_law_is_good_fact"), "_law_is_good_fact", "_law_is_good_fact", s__law_is_good_fact⟩] : List FnT) ++
  ([⟨fun K => (gA K "_law_read_fact"), "_law_read_fact", "_law_read_fact", s__law_read_fact⟩,
    ⟨fun K => (gA K "_law_all"), "_law_all", "_law_all", s__law_all⟩,
    ⟨fun K => (gA K "law"), "law", "law", s_law⟩,
    ⟨fun K => (mA K (gA K "BadRun") "__init__"), "__init__", "BadRun.__init__", (inClass (topS 2) 0)⟩,
    ⟨fun K => (mA K (gA K "BadLine") "__init__"), "__init__", "BadLine.__init__", (inClass (topS 8) 0)⟩] : List FnT)
  dc := ([] : List (Str × List (Str × Int)))
abbrev rowR : PySem.W.OpenRow := PySem.W.OpenLaw.row PySem.Challenge.rw_patchfacts_k49_text_refusals
abbrev seeQ : Program := PySem.W.view rowR.prog [43]
def freeN : List PySem.Str := (["__name__",
    "PatchError",
    "BadRun",
    "BadFact",
    "BadStore",
    "UnknownStart",
    "NoStore",
    "NotForced",
    "BadLine",
    "NoFact",
    "LETTERS",
    "DIGITS",
    "LONGEST_NAME",
    "is_name",
    "is_step",
    "check_run",
    "run_of",
    "fact_of",
    "read_run",
    "read_fact",
    "read_book",
    "_law_draw",
    "_law_names",
    "_law_raw_run",
    "_law_raw_fact"] : List PySem.Str) ++
  (["_law_char",
    "_law_spoilt_text",
    "_law_is_name",
    "_law_is_good_run",
    "_law_is_good_fact",
    "_law_read_fact",
    "_law_is_run",
    "_law_is_fact",
    "_law_same_facts",
    "_law_is_integer",
    "_law_refused_line",
    "_law_many",
    "_law_text",
    "_law_one",
    "_law_all"] : List PySem.Str)
abbrev RunT (w : World) : Prop := HandSHeadRun.RunEq rowR seeQ (hookP 12 tops 214) (obP 12 tops 214) 30000 freeN w
theorem run_false (w : World) : RunT (w.withFollow "special-get-raises" false) := by
  intro os
  kernel_rfl
theorem run_true (w : World) : RunT (w.withFollow "special-get-raises" true) := by
  intro os
  kernel_rfl
theorem run_ok (w : World) : RunT w := PySem.W.byRow2 "special-get-raises" (P := RunT) run_false run_true w
set_option maxHeartbeats 2000000
end VL
set_option maxRecDepth 100000
namespace VL
open PySem L2

inductive D where
  | non | bl (b : Bool) | int (i : Int) | str (s : Str)
  | scr (ns : List Int) | tup (ds : List D) | lst (ds : List D) | dic (t : Nat) (es : List (D × D)) | ins (c : Str) (fs : List (Str × D)) | exn (c : Str) (fs : List (Str × D)) | sel (x : Addr) (c : Str) (fs : List (Str × D))
instance : Inhabited D := ⟨.non⟩
abbrev Vw := Addr → Option HO
structure Gm where
  P : Program
  w : World
  K : PySem.W.Frag
  mg : Str → Option Value
def ScrAt (K : PySem.W.Frag) (G : Vw) (a : Addr) (ns : List Int) : Prop := G a = some (.lst (ns.map V.int)) ∨
  ∃ (o : Obj) (its : Array Value) (n : Nat), K.lookup a = some o ∧ o.cls = .type "list" ∧ o.dict = none ∧ o.data = .seq its n ∧ its.size ≤ sizeLine ∧ Vals (ns.map V.int) its.toList
theorem ScrAt.mono {K : PySem.W.Frag} {G G' : Vw} {a : Addr} {ns : List Int} (e : ∀ a u, G a = some u → G' a = some u) (h : ScrAt K G a ns) : ScrAt K G' a ns := h.imp (e _ _) id
abbrev NK := List (Sum Key (List Key))
def nkH1 (w : World) : Sum Key (List Key) → Int
  | .inl k => keyH w k
  | .inr ks => reduceHash (Builtin.Tuple.tupleHashOf (ks.map (keyH w)))
def nkH (w : World) (k : NK) : Int := reduceHash (Builtin.Tuple.tupleHashOf (k.map (nkH1 w)))
def nDict (w : World) (a : Addr) (kvs : List (NK × Addr × V)) : HO := .ext fun h =>
  kvs.length ≤ sizeLine ∧ (a == sysModules) = false ∧ (kvs.map (·.1)).Nodup ∧ ∃ us : List Value, Vals (kvs.map (·.2.2)) us ∧
    ∃ (o : Obj) (es : Array DictEntry) (ep : Nat), h.get? a = some o ∧ o.ExactDict ∧ o.data = .dict es ep ∧ es.toList = List.zipWith (fun (p : NK × Addr × V) (u : Value) => (⟨nkH w p.1, .ref p.2.1, u⟩ : DictEntry)) kvs us
inductive Res (α : Type) where
  | ok (a : α) | exc (c : Str) (fs : List (Str × D)) | bad
def Res.bind {α β : Type} : Res α → (α → Res β) → Res β
  | .ok a, f => f a
  | .exc c fs, _ => .exc c fs
  | .bad, _ => .bad
inductive Sl where
  | no | sh (d : D) | ow (d : D)
instance : Inhabited Sl := ⟨.no⟩
abbrev Env := List Sl
def keyD : Key → D
  | .inl i => .int i
  | .inr s => .str s
def nkD1 : Sum Key (List Key) → D
  | .inl k => keyD k
  | .inr ks => .tup (ks.map keyD)
def nkD (k : NK) : D := .tup (k.map nkD1)
def NItem (G : Vw) : Sum Key (List Key) → V → Prop
  | .inl k, x => x = kV k
  | .inr ks, x => ∃ b, x = .ref b ∧ G b = some (.tup (ks.map kV))
inductive NItems (G : Vw) : NK → List V → Prop
  | nil : NItems G [] []
  | cons {k : Sum Key (List Key)} {ks : NK} {x : V} {xs : List V} : NItem G k x → NItems G ks xs → NItems G (k :: ks) (x :: xs)
def NTup (G : Vw) (k : NK) (q : Addr) : Prop := ∃ xs, G q = some (.tup xs) ∧ NItems G k xs
mutual
inductive Rp (mg : Gm) (G : Vw) : D → V → Prop
  | non : Rp mg G .non .non
  | bl (b : Bool) : Rp mg G (.bl b) (.bl b)
  | int (i : Int) : Rp mg G (.int i) (.int i)
  | str (s : Str) : Rp mg G (.str s) (.str s)
  | scr {a : Addr} {ns : List Int} : ScrAt mg.K G a ns → Rp mg G (.scr ns) (.ref a)
  | tup {a : Addr} {xs : List V} {ds : List D} : G a = some (.tup xs) → RpL mg G ds xs → Rp mg G (.tup ds) (.ref a)
  | lst {a : Addr} {xs : List V} {ds : List D} : G a = some (.lst xs) → RpL mg G ds xs → Rp mg G (.lst ds) (.ref a)
  | dicK {a : Addr} {kvs : List (Key × V)} {es : List (D × D)} : G a = some (.dK kvs) → es.map (·.1) = kvs.map (fun p => keyD p.1) → RpL mg G (es.map (·.2)) (kvs.map (·.2)) → Rp mg G (.dic 0 es) (.ref a)
  | dicT {a : Addr} {kvs : List (List Key × V)} {es : List (D × D)} : G a = some (.dT kvs) → es.map (·.1) = kvs.map (fun p => .tup (p.1.map keyD)) → RpL mg G (es.map (·.2)) (kvs.map (·.2)) → Rp mg G (.dic 1 es) (.ref a)
  | dicN {a : Addr} {kvs : List (NK × Addr × V)} {es : List (D × D)} : G a = some (nDict mg.w a kvs) → (∀ e ∈ kvs, NTup G e.1 e.2.1) → es.map (·.1) = kvs.map (fun p => nkD p.1) → RpL mg G (es.map (·.2)) (kvs.map (·.2.2)) → Rp mg G (.dic 2 es) (.ref a)
  | ins {a C dx : Addr} {c : Str} {fs : List (Str × V)} {gs : List (Str × D)} : mg.mg c = some (.ref C) → G a = some (.ins C dx fs) → gs.map (·.1) = fs.map (·.1) → RpL mg G (gs.map (·.2)) (fs.map (·.2)) → Rp mg G (.ins c gs) (.ref a)
  | sel {a C dx : Addr} {c : Str} {fs : List (Str × V)} {gs : List (Str × D)} : mg.mg c = some (.ref C) → G a = some (.ins C dx fs) → gs.map (·.1) = fs.map (·.1) → RpL mg G (gs.map (·.2)) (fs.map (·.2)) → Rp mg G (.sel a c gs) (.ref a)
  | exn0 {a : Addr} {oe : Obj} {c : Str} {cls : Value} : G a = some (.frz oe (.own a)) → Zc cls none oe → (∃ vs, oe.data = .fields vs) → mg.mg c = some cls → Rp mg G (.exn c []) (.ref a)
  | exnF {a dd : Addr} {oe : Obj} {c : Str} {cls : Value} {fs : List (Str × D)} {vs : List (Str × V)} : G a = some (.frz oe (.own a)) → Zc cls (some dd) oe → (∃ vs, oe.data = .fields vs) → mg.mg c = some cls → G dd = some (.xd vs) → fs.map (·.1) = vs.map (·.1) → RpL mg G (fs.map (·.2)) (vs.map (·.2)) → Rp mg G (.exn c fs) (.ref a)
inductive RpL (mg : Gm) (G : Vw) : List D → List V → Prop
  | nil : RpL mg G [] []
  | cons {d : D} {ds : List D} {v : V} {vs : List V} : Rp mg G d v → RpL mg G ds vs → RpL mg G (d :: ds) (v :: vs)
end
def RpX (mg : Gm) (G : Vw) (c : Str) (fs : List (Str × D)) (cls : Value) (dd : Option Addr) : Prop :=
  mg.mg c = some cls ∧ ((fs = [] ∧ dd = none) ∨ ∃ (d : Addr) (vs : List (Str × V)), dd = some d ∧ G d = some (.xd vs) ∧ fs.map (·.1) = vs.map (·.1) ∧ RpL mg G (fs.map (·.2)) (vs.map (·.2)))

def vw (H : Hp) : Vw := fun a => match H a with
  | some (.frz _ (.lst xs)) => some (.lst xs)
  | some (.frz _ (.dK xs)) => some (.dK xs)
  | some (.frz _ (.dT xs)) => some (.dT xs)
  | some (.frz _ (.ext p)) => some (.ext p)
  | some (.tbl _) => some (.tbl #[])
  | x => x
def Sh (M : Addr → Bool) (G : Vw) : Vw := fun a => if M a = true then none else G a
def vis (fl : Bool) (M : Addr → Bool) (G : Vw) : Vw := if fl = true then Sh M G else G
def VEx (G G' : Vw) : Prop := ∀ a u, G a = some u → G' a = some u
def tabP : Option Addr := some 214
def tabQ : Str := "read_book.<locals>.take"
def ExtO : HO → Option HO → Prop
  | .tbl ps, r => ∃ more, r = some (.tbl (ps ++ more))
  | o, r => r = some o
def TabG (H : Hp) : Prop := ∀ P, tabP = some P → NdefX.TabN H P (fun _ _ => tabQ)
structure Ext (H H' : Hp) : Prop where
  o : ∀ a u, H a = some u → ExtO u (H' a)
  t : TabG H → TabG H'
instance {H H' : Hp} : CoeFun (Ext H H') (fun _ => ∀ a u, H a = some u → ExtO u (H' a)) := ⟨Ext.o⟩
theorem TabG.exact {H H' : Hp} (h : TabG H) (e : ∀ a u, H a = some u → H' a = some u) : TabG H' := fun P hP => (h P hP).ext e
def notCd : HO → Prop
  | .tbl _ => False
  | .ext _ => False
  | _ => True
theorem TabG.but {H K : Hp} {p : Addr} (h : TabG H) (n : ∀ u, H p = some u → notCd u) (e : ∀ a, a ≠ p → K a = H a) : TabG K := fun P hP => by
  obtain ⟨ps, h1, h2, h3⟩ := h P hP
  have np : P ≠ p := fun c => (show notCd (.tbl ps) from n _ (by rw [← c]; exact h1))
  refine ⟨ps, by rw [e P np]; exact h1, h2, fun pos cv hc => ?_⟩
  obtain ⟨c, q1, q2⟩ := h3 pos cv hc
  have nc : c ≠ p := fun z => by
    have y : notCd (LamX.CodeO c tabQ) := n _ (by rw [← z]; exact q2)
    exact y
  exact ⟨c, q1, by rw [e c nc]; exact q2⟩
theorem TabG.put {H : Hp} {p : Addr} {x : HO} (h : TabG H) (n : ∀ u, H p = some u → notCd u) : TabG (upd H p x) := h.but n fun a c => upd_ne c
def noTbl : HO → Bool
  | .tbl _ => false
  | _ => true
theorem extO_of {o : HO} {r : Option HO} (h : r = some o) : ExtO o r := by
  cases o <;> first | exact h | exact ⟨#[], by rw [h, Array.append_empty]⟩
theorem ExtO.get {o : HO} {r : Option HO} (h : ExtO o r) (n : noTbl o = true) : r = some o := by
  cases o <;> first | exact h | cases n
theorem ExtO.back {u w : HO} (h : ExtO u (some w)) (n : noTbl w = true) : u = w := by
  cases u <;> first | exact (Option.some.inj h).symm | (obtain ⟨m, h⟩ := h; cases h; cases n)
theorem ExtO.some {o : HO} {r : Option HO} (h : ExtO o r) : ∃ o', r = some o' ∧ (noTbl o = true → o' = o) ∧ (noTbl o = false → noTbl o' = false) := by
  cases o <;> first | exact ⟨_, h, fun _ => rfl, fun n => n⟩ | (obtain ⟨more, h⟩ := h; exact ⟨_, h, (fun n => by cases n), fun _ => rfl⟩)
theorem nc_at {H : Hp} {p : Addr} {v : HO} (h : H p = some v) (n : notCd v) : ∀ u, H p = some u → notCd u := fun u e => by
  rw [h] at e; cases e; exact n
theorem nc_no {H : Hp} {p : Addr} (h : H p = none) : ∀ u, H p = some u → notCd u := fun u e => by
  rw [h] at e; cases e
theorem VEx.refl (G : Vw) : VEx G G := fun _ _ h => h
theorem VEx.trans {G G' G'' : Vw} (a : VEx G G') (b : VEx G' G'') : VEx G G'' := fun x u h => b x u (a x u h)
theorem Ext.refl (H : Hp) : Ext H H := ⟨fun _ _ h => extO_of h, id⟩
theorem Ext.of {H H' : Hp} (h : ∀ a o, H a = some o → H' a = some o) : Ext H H' := ⟨fun a o e => extO_of (h a o e), fun q => q.exact h⟩
theorem Ext.trans {H H1 H2 : Hp} (a : Ext H H1) (b : Ext H1 H2) : Ext H H2 := ⟨fun x o h => by
  have q := a x o h
  cases o with
  | tbl ps =>
    obtain ⟨m1, q⟩ := q
    obtain ⟨m2, q2⟩ := b x _ q
    exact ⟨m1 ++ m2, by rw [q2, Array.append_assoc]⟩
  | _ => exact b x _ q, fun h => b.t (a.t h)⟩
theorem Ext.v {H H' : Hp} (e : Ext H H') : VEx (vw H) (vw H') := fun a u h => by
  cases q : H a with
  | none => unfold vw at h; rw [q] at h; cases h
  | some o =>
    have q' := e a o q
    unfold vw at h ⊢
    rw [q] at h
    cases o with
    | tbl ps => obtain ⟨m, q'⟩ := q'; rw [q']; exact h
    | _ => rw [show H' a = _ from q']; exact h
theorem vw_none {H : Hp} {a : Addr} : vw H a = none ↔ H a = none := by
  unfold vw
  constructor
  · intro h
    split at h <;> first | (cases h; done) | exact h
  · intro h
    rw [h]
theorem Ext.fresh {H H' : Hp} (e : Ext H H') {p : Addr} (h : H' p = none) : H p = none := by
  cases q : H p with
  | none => rfl
  | some o =>
    obtain ⟨o', z, _⟩ := (e p o q).some
    rw [z] at h; cases h
def NF : HO → Prop
  | .frz _ _ => False
  | .tbl _ => False
  | _ => True
theorem vw_of {H : Hp} {a : Addr} {o : HO} (h : H a = some o) (n : NF o) : vw H a = some o := by
  unfold vw
  rw [h]
  cases o <;> first | rfl | exact n.elim
theorem vw_upd_ne {H : Hp} {a p : Addr} {o : HO} (h : a ≠ p) : vw (upd H p o) a = vw H a := by
  unfold vw
  rw [upd_ne h]
theorem vw_upd_same {H : Hp} {p : Addr} {o : HO} (n : NF o) : vw (upd H p o) p = some o := vw_of upd_same n
theorem Ext.new {H : Hp} {p : Addr} {o : HO} (h : H p = none) : Ext H (upd H p o) := .of fun a u e => by
  rw [upd_ne (ne_of_none e h)]
  exact e
theorem Ext.mut {H H' : Hp} {p : Addr} {o : HO} (e : Ext H H') (h : H p = none) (tb : ∀ u, H' p = some u → notCd u) : Ext H (upd H' p o) := ⟨fun a u q => by
  rw [upd_ne (ne_of_none q h)]
  exact e a u q, fun q => (e.t q).put tb⟩
theorem vw_lst {H : Hp} {a : Addr} {xs : List V} (h : vw H a = some (.lst xs)) : Rd H a (.lst xs) := by
  unfold vw at h
  split at h <;> first | (cases h; done) | skip
  · rename_i o ys e; cases h; exact .inr ⟨o, e⟩
  · exact .inl h
theorem vw_dK {H : Hp} {a : Addr} {xs : List (Key × V)} (h : vw H a = some (.dK xs)) : Rd H a (.dK xs) := by
  unfold vw at h
  split at h <;> first | (cases h; done) | skip
  · rename_i o ys e; cases h; exact .inr ⟨o, e⟩
  · exact .inl h
theorem vw_dT {H : Hp} {a : Addr} {xs : List (List Key × V)} (h : vw H a = some (.dT xs)) : Rd H a (.dT xs) := by
  unfold vw at h
  split at h <;> first | (cases h; done) | skip
  · rename_i o ys e; cases h; exact .inr ⟨o, e⟩
  · exact .inl h
theorem vw_tup {H : Hp} {a : Addr} {xs : List V} (h : vw H a = some (.tup xs)) : H a = some (.tup xs) := by
  unfold vw at h
  split at h <;> first | (cases h; done) | exact h
theorem vw_xd {H : Hp} {a : Addr} {fs : List (Str × V)} (h : vw H a = some (.xd fs)) : H a = some (.xd fs) := by
  unfold vw at h
  split at h <;> first | (cases h; done) | exact h
theorem ScrAt.sq {K : PySem.W.Frag} {H : Hp} {a : Addr} {ns : List Int} (h : ScrAt K (vw H) a ns) : SqL K H a (ns.map V.int) := h.imp vw_lst id
theorem Sh_some {M : Addr → Bool} {G : Vw} {a : Addr} {u : HO} (h : Sh M G a = some u) : M a = false ∧ G a = some u := by
  unfold Sh at h
  split at h
  · cases h
  · rename_i hm; exact ⟨by simpa using hm, h⟩
theorem Sh_of {M : Addr → Bool} {G : Vw} {a : Addr} (h : M a = false) : Sh M G a = G a := by
  unfold Sh
  rw [if_neg (by rw [h]; exact Bool.false_ne_true)]
theorem Sh_le (M : Addr → Bool) (G : Vw) : VEx (Sh M G) G := fun a u h => (Sh_some h).2
theorem Sh_mono {M : Addr → Bool} {G G' : Vw} (e : VEx G G') : VEx (Sh M G) (Sh M G') := fun a u h => by
  obtain ⟨h1, h2⟩ := Sh_some h
  rw [Sh_of h1]; exact e a u h2
theorem vis_le (fl : Bool) (M : Addr → Bool) (G : Vw) : VEx (vis fl M G) G := by
  cases fl with
  | true => exact Sh_le M G
  | false => exact .refl _
theorem vis_mono {fl : Bool} {M : Addr → Bool} {G G' : Vw} (e : VEx G G') : VEx (vis fl M G) (vis fl M G') := by
  cases fl with
  | true => exact Sh_mono e
  | false => exact e
theorem Sh_vis (fl : Bool) (M : Addr → Bool) (G : Vw) : VEx (Sh M G) (vis fl M G) := by
  cases fl with
  | true => exact .refl _
  | false => exact Sh_le M G
theorem NItems.mono {G G' : Vw} (e : VEx G G') : ∀ {k : NK} {xs : List V}, NItems G k xs → NItems G' k xs
  | _, _, .nil => .nil
  | .inl _ :: _, _, .cons h r => .cons h (NItems.mono e r)
  | .inr _ :: _, _, .cons h r => .cons (let ⟨b, h1, h2⟩ := h; ⟨b, h1, e _ _ h2⟩) (NItems.mono e r)
theorem NTup.mono {G G' : Vw} (e : VEx G G') {k : NK} {q : Addr} (h : NTup G k q) : NTup G' k q :=
  let ⟨xs, h1, h2⟩ := h
  ⟨xs, e _ _ h1, h2.mono e⟩
mutual
theorem Rp.mono {mg : Gm} {G G' : Vw} (e : VEx G G') : ∀ {d : D} {v : V}, Rp mg G d v → Rp mg G' d v
  | _, _, .non => .non
  | _, _, .bl b => .bl b
  | _, _, .int i => .int i
  | _, _, .str s => .str s
  | _, _, .scr h => .scr (h.mono e)
  | _, _, .tup h r => .tup (e _ _ h) (RpL.mono e r)
  | _, _, .lst h r => .lst (e _ _ h) (RpL.mono e r)
  | _, _, .dicK h k r => .dicK (e _ _ h) k (RpL.mono e r)
  | _, _, .dicT h k r => .dicT (e _ _ h) k (RpL.mono e r)
  | _, _, .dicN h n k r => .dicN (e _ _ h) (fun x hx => (n x hx).mono e) k (RpL.mono e r)
  | _, _, .ins m h k r => .ins m (e _ _ h) k (RpL.mono e r)
  | _, _, .sel m h k r => .sel m (e _ _ h) k (RpL.mono e r)
  | _, _, .exn0 h z d m => .exn0 (e _ _ h) z d m
  | _, _, .exnF h z d m x k r => .exnF (e _ _ h) z d m (e _ _ x) k (RpL.mono e r)
theorem RpL.mono {mg : Gm} {G G' : Vw} (e : VEx G G') : ∀ {ds : List D} {vs : List V}, RpL mg G ds vs → RpL mg G' ds vs
  | _, _, .nil => .nil
  | _, _, .cons h r => .cons (Rp.mono e h) (RpL.mono e r)
end
theorem RpX.mono {mg : Gm} {G G' : Vw} (e : VEx G G') {c : Str} {fs : List (Str × D)} {cls : Value} {dd : Option Addr} (h : RpX mg G c fs cls dd) : RpX mg G' c fs cls dd := by
  obtain ⟨h1, h2 | ⟨d, vs, h2, h3, h4, h5⟩⟩ := h
  · exact ⟨h1, .inl h2⟩
  · exact ⟨h1, .inr ⟨d, vs, h2, e _ _ h3, h4, h5.mono e⟩⟩
def immut : D → Bool
  | .tup ds => immuts ds
  | .lst _ => false
  | .scr _ => false
  | .dic _ _ => false
  | .ins _ _ => false
  | .exn _ _ => false
  | .sel _ _ _ => false
  | _ => true
where immuts : List D → Bool
  | [] => true
  | d :: ds => immut d && immuts ds
mutual
theorem Rp.imm {mg : Gm} {G G' : Vw} (e : ∀ a xs, G a = some (.tup xs) → G' a = some (.tup xs)) : ∀ {d : D} {v : V}, Rp mg G d v → immut d = true → Rp mg G' d v
  | _, _, .non, _ => .non
  | _, _, .bl b, _ => .bl b
  | _, _, .int i, _ => .int i
  | _, _, .str s, _ => .str s
  | _, _, .tup h r, q => .tup (e _ _ h) (RpL.imm e r q)
  | _, _, .scr h, q => by cases q
  | _, _, .lst h r, q => by cases q
  | _, _, .dicK h k r, q => by cases q
  | _, _, .dicT h k r, q => by cases q
  | _, _, .dicN h n k r, q => by cases q
  | _, _, .ins m h k r, q => by cases q
  | _, _, .sel m h k r, q => by cases q
  | _, _, .exn0 .., q => by cases q
  | _, _, .exnF .., q => by cases q
theorem RpL.imm {mg : Gm} {G G' : Vw} (e : ∀ a xs, G a = some (.tup xs) → G' a = some (.tup xs)) : ∀ {ds : List D} {vs : List V}, RpL mg G ds vs → immut.immuts ds = true → RpL mg G' ds vs
  | _, _, .nil, _ => .nil
  | _, _, .cons h r, q => by
    obtain ⟨q1, q2⟩ := Bool.and_eq_true_iff.mp (show (immut _ && immut.immuts _) = true from q)
    exact .cons (Rp.imm e h q1) (RpL.imm e r q2)
end
theorem RpL.length {mg : Gm} {G : Vw} : ∀ {ds : List D} {vs : List V}, RpL mg G ds vs → ds.length = vs.length
  | _, _, .nil => rfl
  | _, _, .cons _ r => by rw [List.length_cons, List.length_cons, r.length]
theorem RpL.get {mg : Gm} {G : Vw} : ∀ {ds : List D} {vs : List V} {i : Nat} {d : D}, RpL mg G ds vs → ds[i]? = some d → ∃ v, vs[i]? = some v ∧ Rp mg G d v
  | _, _, _, _, .nil, e => by simp at e
  | _, _, 0, _, .cons r _, e => by simp at e; subst e; exact ⟨_, rfl, r⟩
  | _, _, i + 1, _, .cons _ t, e => by
    obtain ⟨v, h1, h2⟩ := RpL.get (i := i) t (by simpa using e)
    exact ⟨v, by simpa using h1, h2⟩
theorem RpL.append {mg : Gm} {G : Vw} : ∀ {ds ds' : List D} {vs vs' : List V}, RpL mg G ds vs → RpL mg G ds' vs' → RpL mg G (ds ++ ds') (vs ++ vs')
  | _, _, _, _, .nil, h => h
  | _, _, _, _, .cons h r, t => .cons h (RpL.append r t)
theorem RpL.take {mg : Gm} {G : Vw} : ∀ {ds : List D} {vs : List V} (n : Nat), RpL mg G ds vs → RpL mg G (ds.take n) (vs.take n)
  | _, _, 0, _ => .nil
  | _, _, _ + 1, .nil => .nil
  | _, _, n + 1, .cons h r => .cons h (RpL.take n r)
theorem RpL.drop {mg : Gm} {G : Vw} : ∀ {ds : List D} {vs : List V} (n : Nat), RpL mg G ds vs → RpL mg G (ds.drop n) (vs.drop n)
  | _, _, 0, h => h
  | _, _, _ + 1, .nil => .nil
  | _, _, n + 1, .cons _ r => RpL.drop n r
theorem RpL.set {mg : Gm} {G : Vw} {d : D} {v : V} (r : Rp mg G d v) : ∀ {ds : List D} {vs : List V} (i : Nat), RpL mg G ds vs → RpL mg G (ds.set i d) (vs.set i v)
  | _, _, _, .nil => .nil
  | _, _, 0, .cons _ t => .cons r t
  | _, _, i + 1, .cons q t => .cons q (RpL.set r i t)
theorem RpL.one {mg : Gm} {G : Vw} {d : D} {vs : List V} (h : RpL mg G [d] vs) : ∃ v, vs = [v] ∧ Rp mg G d v := by
  cases h with
  | cons h t => cases t; exact ⟨_, rfl, h⟩
theorem RpL.two {mg : Gm} {G : Vw} {d e : D} {vs : List V} (h : RpL mg G [d, e] vs) : ∃ v w, vs = [v, w] ∧ Rp mg G d v ∧ Rp mg G e w := by
  cases h with
  | cons h t => obtain ⟨w, rfl, q⟩ := t.one; exact ⟨_, w, rfl, h, q⟩
end VL

set_option maxRecDepth 100000
set_option maxHeartbeats 1000000
namespace VL
open PySem L2

def OwOk (mg : Gm) (M : Addr → Bool) (H : Hp) (p : Addr) : D → Prop
  | .lst ds => ∃ xs, H p = some (.lst xs) ∧ RpL mg (Sh M (vw H)) ds xs
  | .dic 0 es => ∃ kvs : List (Key × V), H p = some (.dK kvs) ∧ es.map (·.1) = kvs.map (fun p => keyD p.1) ∧ RpL mg (Sh M (vw H)) (es.map (·.2)) (kvs.map (·.2))
  | .dic 1 es => ∃ kvs : List (List Key × V), H p = some (.dT kvs) ∧ es.map (·.1) = kvs.map (fun p => .tup (p.1.map keyD)) ∧ RpL mg (Sh M (vw H)) (es.map (·.2)) (kvs.map (·.2))
  | .sel x c gs => p = x ∧ ∃ (C dx : Addr) (fs : List (Str × V)), mg.mg c = some (.ref C) ∧ H p = some (.ins C dx fs) ∧ gs.map (·.1) = fs.map (·.1) ∧ RpL mg (Sh M (vw H)) (gs.map (·.2)) (fs.map (·.2))
  | .ins c gs => ∃ (C dx : Addr) (fs : List (Str × V)), mg.mg c = some (.ref C) ∧ H p = some (.ins C dx fs) ∧ gs.map (·.1) = fs.map (·.1) ∧ RpL mg (Sh M (vw H)) (gs.map (·.2)) (fs.map (·.2))
  | _ => False
structure MOk (M : Addr → Bool) (H : Hp) : Prop where
  dom : ∀ a, M a = true → ∃ o, H a = some o
  tup : ∀ a xs, M a = true → H a ≠ some (.tup xs)
  xd : ∀ a fs, M a = true → H a ≠ some (.xd fs)
  tb : TabG H
  nc : ∀ a u, M a = true → H a = some u → notCd u
def SlotOk (mg : Gm) (M0 M : Addr → Bool) (H : Hp) (v : Option (Option V)) : Sl → Prop
  | .no => True
  | .sh d => ∃ x, v = some (some x) ∧ Rp mg (Sh M (vw H)) d x
  | .ow d => ∃ p, v = some (some (.ref p)) ∧ M p = true ∧ M0 p = false ∧ OwOk mg M H p d
def isOw : Option Sl → Bool
  | some (.ow _) => true
  | _ => false
structure Good (mg : Gm) (H0 : Hp) (M0 M : Addr → Bool) (H : Hp) (σ : St) (env : Env) : Prop where
  len : σ.length = env.length
  ok : MOk M H
  sub : ∀ a, M0 a = true → M a = true
  new : ∀ a, M a = true → M0 a = true ∨ H0 a = none
  ok0 : MOk M0 H0
  ex : Ext H0 H
  sl : ∀ (i : Nat) (s : Sl), env[i]? = some s → SlotOk mg M0 M H σ[i]? s
  inj : ∀ (i j : Nat) (p : Addr), i ≠ j → isOw env[i]? = true → isOw env[j]? = true → σ[i]? = some (some (.ref p)) → σ[j]? ≠ some (some (.ref p))
theorem MOk.mono {M : Addr → Bool} {H H' : Hp} (m : MOk M H) (e : Ext H H') : MOk M H' where
  dom := fun a h => by
    obtain ⟨u, q⟩ := m.dom a h
    obtain ⟨w, z, _⟩ := (e a u q).some
    exact ⟨w, z⟩
  tup := fun a xs h z => by
    obtain ⟨u, q⟩ := m.dom a h
    have h1 := e a u q
    rw [z] at h1
    have := h1.back rfl
    subst this
    exact m.tup a xs h q
  xd := fun a fs h z => by
    obtain ⟨u, q⟩ := m.dom a h
    have h1 := e a u q
    rw [z] at h1
    have := h1.back rfl
    subst this
    exact m.xd a fs h q
  tb := e.t m.tb
  nc := fun a w h z => by
    obtain ⟨u, q⟩ := m.dom a h
    have h1 := e a u q
    have n := m.nc a u h q
    rw [z] at h1
    cases u with
    | tbl _ => exact n.elim
    | ext _ => exact n.elim
    | _ => cases (show some w = some _ from h1); exact n
theorem MOk.empty {H : Hp} (tb : TabG H) : MOk (fun _ => false) H := ⟨fun _ h => Bool.noConfusion h, fun _ _ h => Bool.noConfusion h, fun _ _ h => Bool.noConfusion h, tb, fun _ _ h => Bool.noConfusion h⟩
theorem OwOk.mono {mg : Gm} {M : Addr → Bool} {H H' : Hp} {p : Addr} (e : Ext H H') : ∀ {d : D}, OwOk mg M H p d → OwOk mg M H' p d
  | .lst ds, ⟨xs, h, r⟩ => ⟨xs, e _ _ h, r.mono (Sh_mono e.v)⟩
  | .dic 0 es, ⟨kvs, h, k, r⟩ => ⟨kvs, e _ _ h, k, r.mono (Sh_mono e.v)⟩
  | .dic 1 es, ⟨kvs, h, k, r⟩ => ⟨kvs, e _ _ h, k, r.mono (Sh_mono e.v)⟩
  | .dic (_ + 2) _, h => h.elim
  | .ins c gs, ⟨C, dx, fs, m, h, k, r⟩ => ⟨C, dx, fs, m, e _ _ h, k, r.mono (Sh_mono e.v)⟩
  | .non, h => h.elim
  | .bl _, h => h.elim
  | .int _, h => h.elim
  | .str _, h => h.elim
  | .tup _, h => h.elim
  | .scr _, h => h.elim
  | .exn _ _, h => h.elim
  | .sel x c gs, ⟨q, C, dx, fs, m, h, k, r⟩ => ⟨q, C, dx, fs, m, e _ _ h, k, r.mono (Sh_mono e.v)⟩
theorem SlotOk.mono {mg : Gm} {M0 M : Addr → Bool} {H H' : Hp} {v : Option (Option V)} (e : Ext H H') : ∀ {s : Sl}, SlotOk mg M0 M H v s → SlotOk mg M0 M H' v s
  | .no, _ => trivial
  | .sh d, ⟨x, h, r⟩ => ⟨x, h, r.mono (Sh_mono e.v)⟩
  | .ow d, ⟨p, h, m, m0, r⟩ => ⟨p, h, m, m0, r.mono e⟩
theorem Good.mono {mg : Gm} {H0 : Hp} {M0 M : Addr → Bool} {H H' : Hp} {σ : St} {env : Env} (g : Good mg H0 M0 M H σ env) (e : Ext H H') : Good mg H0 M0 M H' σ env :=
  ⟨g.len, g.ok.mono e, g.sub, g.new, g.ok0, g.ex.trans e, fun i s h => (g.sl i s h).mono e, g.inj⟩

abbrev gm (X : Cx) : Gm := ⟨X.prog, X.w, X.K, X.mg⟩
def PostE (X : Cx) (W : WX) (fl : Bool) (M : Addr → Bool) (σ : St) (H : Hp) (Q : VK) : Res D → Prop
  | .ok d => ∀ v H', Ext H H' → Rp (gm X) (vis fl M (vw H')) d v → Q v H'
  | .exc c fs => ∀ cls dd H', Ext H H' → RpX (gm X) (Sh M (vw H')) c fs cls dd → W cls dd σ H'
  | .bad => False
def PostA (X : Cx) (W : WX) (fl : Bool) (M : Addr → Bool) (σ : St) (H : Hp) (Q : List V → Hp → Prop) : Res (List D) → Prop
  | .ok ds => ∀ vs H', Ext H H' → RpL (gm X) (vis fl M (vw H')) ds vs → Q vs H'
  | .exc c fs => ∀ cls dd H', Ext H H' → RpX (gm X) (Sh M (vw H')) c fs cls dd → W cls dd σ H'
  | .bad => False
def PostT {α : Type} (X : Cx) (W : WX) (M : Addr → Bool) (σ : St) (H : Hp) (Q : α → Hp → Prop) : Res α → Prop
  | .ok b => ∀ H', Ext H H' → Q b H'
  | .exc c fs => ∀ cls dd H', Ext H H' → RpX (gm X) (Sh M (vw H')) c fs cls dd → W cls dd σ H'
  | .bad => False
def VE (X : Cx) (W : WX) (fl : Bool) (e : Expr) (φ : Env → Res D) : Prop :=
  ∃ t : TE, PE X e t ∧ ∀ (H0 : Hp) (M0 M : Addr → Bool) (H : Hp) (σ : St) (env : Env) (Q : VK), Good (gm X) H0 M0 M H σ env → PostE X W fl M σ H Q (φ env) → t σ H Q
def VA (X : Cx) (W : WX) (fl : Bool) (es : List Expr) (φ : Env → Res (List D)) : Prop :=
  ∃ t : TA, PA X es t ∧ ∀ (H0 : Hp) (M0 M : Addr → Bool) (H : Hp) (σ : St) (env : Env) (Q : List V → Hp → Prop), Good (gm X) H0 M0 M H σ env → PostA X W fl M σ H Q (φ env) → t σ H Q
def VT (X : Cx) (W : WX) (e : Expr) (φ : Env → Res Bool) : Prop :=
  ∃ t : TT, PT X e t ∧ ∀ (H0 : Hp) (M0 M : Addr → Bool) (H : Hp) (σ : St) (env : Env) (Q : Bool → Hp → Prop), Good (gm X) H0 M0 M H σ env → PostT X W M σ H Q (φ env) → t σ H Q
section
variable {X : Cx} {W : WX} {fl fla flb : Bool} {M : Addr → Bool} {σ : St} {H H' : Hp} {Q : VK}
theorem PostE.mono {r : Res D} (h : PostE X W fl M σ H Q r) (e : Ext H H') : PostE X W fl M σ H' Q r := by
  cases r with
  | ok d => exact fun v H2 e2 r => h v H2 (e.trans e2) r
  | exc c fs => exact fun cls dd H2 e2 r => h cls dd H2 (e.trans e2) r
  | bad => exact h
theorem PostE.ite {c : Prop} [Decidable c] {r : Res D} (h : PostE X W fl M σ H Q (if c then r else .bad)) : c ∧ PostE X W fl M σ H Q r := by
  by_cases hc : c
  · rw [if_pos hc] at h; exact ⟨hc, h⟩
  · rw [if_neg hc] at h; exact h.elim
theorem PostE.seq {r : Res D} {f : D → Res D} {Q' : VK} (h : PostE X W fl M σ H Q (r.bind f))
    (k : ∀ d v H1, Ext H H1 → Rp (gm X) (vis fla M (vw H1)) d v → PostE X W fl M σ H1 Q (f d) → Q' v H1) : PostE X W fla M σ H Q' r := by
  cases r with
  | ok d => exact fun v H1 e1 r1 => k d v H1 e1 r1 (PostE.mono h e1)
  | exc c fs => exact h
  | bad => exact h
theorem PostA.mono {r : Res (List D)} {Q : List V → Hp → Prop} (h : PostA X W fl M σ H Q r) (e : Ext H H') : PostA X W fl M σ H' Q r := by
  cases r with
  | ok d => exact fun v H2 e2 r => h v H2 (e.trans e2) r
  | exc c fs => exact fun cls dd H2 e2 r => h cls dd H2 (e.trans e2) r
  | bad => exact h
theorem PostT.mono {α : Type} {r : Res α} {Q : α → Hp → Prop} (h : PostT X W M σ H Q r) (e : Ext H H') : PostT X W M σ H' Q r := by
  cases r with
  | ok d => exact fun H2 e2 => h H2 (e.trans e2)
  | exc c fs => exact fun cls dd H2 e2 r => h cls dd H2 (e.trans e2) r
  | bad => exact h
theorem PostA.head {r : Res D} {f : D → Res (List D)} {Q : List V → Hp → Prop} {Q' : VK} (h : PostA X W fl M σ H Q (r.bind f))
    (k : ∀ d v H1, Ext H H1 → Rp (gm X) (vis fl M (vw H1)) d v → PostA X W fl M σ H1 Q (f d) → Q' v H1) : PostE X W fl M σ H Q' r := by
  cases r with
  | ok d => exact fun v H1 e1 r1 => k d v H1 e1 r1 (PostA.mono h e1)
  | exc c fs => exact h
  | bad => exact h
theorem PostA.tail {r : Res (List D)} {f : List D → Res (List D)} {Q Q' : List V → Hp → Prop} (h : PostA X W fl M σ H Q (r.bind f))
    (k : ∀ d v H1, Ext H H1 → RpL (gm X) (vis fl M (vw H1)) d v → PostA X W fl M σ H1 Q (f d) → Q' v H1) : PostA X W fl M σ H Q' r := by
  cases r with
  | ok d => exact fun v H1 e1 r1 => k d v H1 e1 r1 (PostA.mono h e1)
  | exc c fs => exact h
  | bad => exact h
theorem PostE.args {r : Res (List D)} {f : List D → Res D} {Q' : List V → Hp → Prop} (h : PostE X W fl M σ H Q (r.bind f))
    (k : ∀ ds vs H1, Ext H H1 → RpL (gm X) (vis fla M (vw H1)) ds vs → PostE X W fl M σ H1 Q (f ds) → Q' vs H1) : PostA X W fla M σ H Q' r := by
  cases r with
  | ok d => exact fun v H1 e1 r1 => k d v H1 e1 r1 (PostE.mono h e1)
  | exc c fs => exact h
  | bad => exact h
theorem PostT.seq {α : Type} {r : Res D} {f : D → Res α} {Q : α → Hp → Prop} {Q' : VK} (h : PostT X W M σ H Q (r.bind f))
    (k : ∀ d v H1, Ext H H1 → Rp (gm X) (vis fl M (vw H1)) d v → PostT X W M σ H1 Q (f d) → Q' v H1) : PostE X W fl M σ H Q' r := by
  cases r with
  | ok d => exact fun v H1 e1 r1 => k d v H1 e1 r1 (PostT.mono h e1)
  | exc c fs => exact h
  | bad => exact h
theorem PostT.tst {α β : Type} {r : Res α} {f : α → Res β} {Q : β → Hp → Prop} {Q' : α → Hp → Prop} (h : PostT X W M σ H Q (r.bind f))
    (k : ∀ b H1, Ext H H1 → PostT X W M σ H1 Q (f b) → Q' b H1) : PostT X W M σ H Q' r := by
  cases r with
  | ok d => exact fun H1 e1 => k d H1 e1 (PostT.mono h e1)
  | exc c fs => exact h
  | bad => exact h
theorem PostE.tst {α : Type} {r : Res α} {f : α → Res D} {Q' : α → Hp → Prop} (h : PostE X W fl M σ H Q (r.bind f))
    (k : ∀ b H1, Ext H H1 → PostE X W fl M σ H1 Q (f b) → Q' b H1) : PostT X W M σ H Q' r := by
  cases r with
  | ok d => exact fun H1 e1 => k d H1 e1 (PostE.mono h e1)
  | exc c fs => exact h
  | bad => exact h
end
end VL

set_option maxRecDepth 100000
set_option maxHeartbeats 1000000
namespace VL
open PySem L2

mutual
def toPy : D → PyData
  | .non => .none
  | .bl b => .bool b
  | .int i => .int i
  | .str s => .str s
  | .scr ns => .list (ns.map .int)
  | .tup ds => .tuple (toPys ds)
  | .lst ds => .list (toPys ds)
  | .dic _ _ => .none
  | .ins _ _ => .none
  | .exn _ _ => .none
  | .sel _ _ _ => .none
def toPys : List D → List PyData
  | [] => []
  | d :: ds => toPy d :: toPys ds
end
mutual
def plain : D → Bool
  | .tup ds => plains ds
  | .lst ds => plains ds
  | .dic _ _ => false
  | .ins _ _ => false
  | .exn _ _ => false
  | .sel _ _ _ => false
  | _ => true
def plains : List D → Bool
  | [] => true
  | d :: ds => plain d && plains ds
end
def cmpOk (d : D) : Bool := plain d && SeqAt.shaped (toPy d)
def eqD (d e : D) : Bool := PyData.eqv (toPy d) (toPy e)
theorem dp_ints {K : PySem.W.Frag} {H : Hp} : ∀ ns : List Int, DpAll K H (ns.map V.int) (ns.map PyData.int)
  | [] => .nil
  | n :: ns => .cons (.int n) (dp_ints ns)
mutual
theorem Rp.dp {mg : Gm} {H : Hp} : ∀ {d : D} {v : V}, Rp mg (vw H) d v → plain d = true → Dp mg.K H v (toPy d)
  | _, _, .non, _ => .non
  | _, _, .bl b, _ => .bl b
  | _, _, .int i, _ => .int i
  | _, _, .str s, _ => .str s
  | _, _, .scr h, _ => .lst h.sq (dp_ints _)
  | _, _, .tup h r, q => .tup (.inl (.inl (vw_tup h))) (RpL.dp r q)
  | _, _, .lst h r, q => .lst (.inl (vw_lst h)) (RpL.dp r q)
  | _, _, .dicK h k r, q => by cases q
  | _, _, .dicT h k r, q => by cases q
  | _, _, .dicN h n k r, q => by cases q
  | _, _, .ins m h k r, q => by cases q
  | _, _, .sel m h k r, q => by cases q
  | _, _, .exn0 .., q => by cases q
  | _, _, .exnF .., q => by cases q
theorem RpL.dp {mg : Gm} {H : Hp} : ∀ {ds : List D} {vs : List V}, RpL mg (vw H) ds vs → plains ds = true → DpAll mg.K H vs (toPys ds)
  | _, _, .nil, _ => .nil
  | _, _, .cons h r, q => by
    obtain ⟨q1, q2⟩ := Bool.and_eq_true_iff.mp (show (plain _ && plains _) = true from q)
    exact .cons (Rp.dp h q1) (RpL.dp r q2)
end

def getP (i : Nat) (env : Env) : Res D := match env[i]? with
  | some (.sh d) => .ok d
  | _ => .bad
def getB (i : Nat) (env : Env) : Res D := match env[i]? with
  | some (.sh d) => .ok d
  | some (.ow d) => .ok d
  | _ => .bad
theorem OwOk.rp {mg : Gm} {M : Addr → Bool} {H : Hp} {p : Addr} : ∀ {d : D}, OwOk mg M H p d → Rp mg (vw H) d (.ref p)
  | .lst ds, ⟨xs, h, r⟩ => .lst (vw_of h trivial) (r.mono (Sh_le _ _))
  | .dic 0 es, ⟨kvs, h, k, r⟩ => .dicK (vw_of h trivial) k (r.mono (Sh_le _ _))
  | .dic 1 es, ⟨kvs, h, k, r⟩ => .dicT (vw_of h trivial) k (r.mono (Sh_le _ _))
  | .dic (_ + 2) _, h => h.elim
  | .ins c gs, ⟨C, dx, fs, m, h, k, r⟩ => .ins m (vw_of h trivial) k (r.mono (Sh_le _ _))
  | .non, h => h.elim
  | .bl _, h => h.elim
  | .int _, h => h.elim
  | .str _, h => h.elim
  | .tup _, h => h.elim
  | .scr _, h => h.elim
  | .exn _ _, h => h.elim
  | .sel x c gs, ⟨q, C, dx, fs, m, h, k, r⟩ => by
    subst q
    exact .sel m (vw_of h trivial) k (r.mono (Sh_le _ _))
section
variable {X : Cx} {W : WX} {fl fla flb flc : Bool} {e a b c : Expr} {es : List Expr} {pos : Pos} {φ φa φb φc : Env → Res D}
theorem ve_v (i : Nat) {x : Str} (hN : X.N[i]? = some x := by rfl) (hv : Vis X.env.scope x := by first | exact Or.inl rfl | exact Or.inr (Or.inl rfl) | exact Or.inr (Or.inr rfl)) (hd : (x == ("__debug__" : Str)) = false := by decide)
    (hcd : (x == ("__classdict__" : Str)) = false := by decide) : VE X W fl (.Name x pos) (getP i) := by
  refine ⟨tVar i, pe_var hN hv hd hcd, fun H0 M0 M H σ env Q g h => ?_⟩
  unfold getP at h
  cases q : env[i]? with
  | none => rw [q] at h; exact h.elim
  | some s =>
    rw [q] at h
    cases s with
    | no => exact h.elim
    | ow d => exact h.elim
    | sh d =>
      obtain ⟨x, e, r⟩ := g.sl i _ q
      exact ⟨x, e, h x H (Ext.refl H) (r.mono (Sh_vis fl M _))⟩
theorem ve_b (i : Nat) {x : Str} (hN : X.N[i]? = some x := by rfl) (hv : Vis X.env.scope x := by first | exact Or.inl rfl | exact Or.inr (Or.inl rfl) | exact Or.inr (Or.inr rfl)) (hd : (x == ("__debug__" : Str)) = false := by decide)
    (hcd : (x == ("__classdict__" : Str)) = false := by decide) : VE X W false (.Name x pos) (getB i) := by
  refine ⟨tVar i, pe_var hN hv hd hcd, fun H0 M0 M H σ env Q g h => ?_⟩
  unfold getB at h
  cases q : env[i]? with
  | none => rw [q] at h; exact h.elim
  | some s =>
    rw [q] at h
    cases s with
    | no => exact h.elim
    | ow d =>
      obtain ⟨p, e, m, m0, r⟩ := g.sl i _ q
      exact ⟨_, e, h _ H (Ext.refl H) r.rp⟩
    | sh d =>
      obtain ⟨x, e, r⟩ := g.sl i _ q
      exact ⟨x, e, h x H (Ext.refl H) (r.mono (Sh_le M _))⟩
def cE (d : D) (_ : Env) : Res D := .ok d
theorem ve_int {i j} : VE X W fl (.Constant (.int i) j pos) (cE (.int i)) := ⟨_, pe_int, fun _ _ _ H _ _ _ _ h => h _ H (Ext.refl H) (.int i)⟩
theorem ve_bl {i j} : VE X W fl (.Constant (.bool i) j pos) (cE (.bl i)) := ⟨_, pe_bl, fun _ _ _ H _ _ _ _ h => h _ H (Ext.refl H) (.bl i)⟩
theorem ve_non {j} : VE X W fl (.Constant .none j pos) (cE .non) := ⟨_, pe_non, fun _ _ _ H _ _ _ _ h => h _ H (Ext.refl H) .non⟩
theorem ve_str {x j} : VE X W fl (.Constant (.str x) j pos) (cE (.str x)) := ⟨_, pe_str, fun _ _ _ H _ _ _ _ h => h _ H (Ext.refl H) (.str x)⟩
theorem ve_gStr {x s : Str} {t : Tok} (hm : X.mg x = some (.str s t)) (hg : Gl X x := by rfl) (hd : (x == ("__debug__" : Str)) = false := by decide) : VE X W fl (.Name x pos) (cE (.str s)) :=
  ⟨_, pe_glob (v := .str s) hg hm ⟨t, rfl⟩ hd, fun _ _ _ H _ _ _ _ h => h _ H (Ext.refl H) (.str s)⟩
theorem ve_gInt {x : Str} {i : Int} {t : Tok} (hm : X.mg x = some (.int i t)) (hg : Gl X x := by rfl) (hd : (x == ("__debug__" : Str)) = false := by decide) : VE X W fl (.Name x pos) (cE (.int i)) :=
  ⟨_, pe_glob (v := .int i) hg hm ⟨t, rfl⟩ hd, fun _ _ _ H _ _ _ _ h => h _ H (Ext.refl H) (.int i)⟩
def immE (φ : Env → Res D) (env : Env) : Res D := (φ env).bind fun d => if immut d = true then .ok d else .bad
theorem ve_imm (h : VE X W false e φ) : VE X W fl e (immE φ) := by
  obtain ⟨t, ht, r⟩ := h
  refine ⟨t, ht, fun H0 M0 M H σ env Q g h => ?_⟩
  refine r H0 M0 M H σ env _ g (PostE.seq h fun d v H1 e1 r1 h1 => ?_)
  split at h1
  · rename_i hi
    exact h1 v H1 (Ext.refl _) (r1.imm (fun a xs q => by
      cases fl with
      | true =>
        show Sh M (vw H1) a = _
        cases m : M a with
        | true => exact absurd (vw_tup q) ((g.ok.mono e1).tup a xs m)
        | false => rw [Sh_of m]; exact q
      | false => exact q) hi)
  · exact h1.elim

def OpF (X : Cx) (W : WX) (fla flb fl : Bool) (r : R2) (f : D → D → Res D) : Prop :=
  ∀ (M : Addr → Bool) (H : Hp) (σ : L2.St) (Q : VK) (d e : D) (v w : V), MOk M H → Rp (gm X) (vis fla M (vw H)) d v → Rp (gm X) (vis flb M (vw H)) e w → PostE X W fl M σ H Q (f d e) → r v w H Q
def op2 (f : D → D → Res D) (φa φb : Env → Res D) (env : Env) : Res D := (φa env).bind fun d => (φb env).bind fun e => f d e
theorem ve_op {op : Operator} {r : R2} {f : D → D → Res D} (ho : OpR X (binaryOp op) r) (hf : OpF X W fla flb fl r f) (ha : VE X W fla a φa) (hb : VE X W flb b φb) : VE X W fl (.BinOp a op b pos) (op2 f φa φb) := by
  obtain ⟨ta, pa, ra⟩ := ha
  obtain ⟨tb, pb, rb⟩ := hb
  refine ⟨_, pe_op ho pa pb, fun H0 M0 M H σ env Q g h => ?_⟩
  refine ra H0 M0 M H σ env _ g (PostE.seq h fun d v H1 e1 r1 h1 => ?_)
  refine rb H0 M0 M H1 σ env _ (g.mono e1) (PostE.seq h1 fun d2 v2 H2 e2 r2 h2 => ?_)
  exact hf M H2 σ Q d d2 v v2 ((g.ok.mono e1).mono e2) (r1.mono (vis_mono e2.v)) r2 h2
theorem ve_cmp {op : CmpOp} {r : R2} {f : D → D → Res D} (ho : OpR X (compareOp op) r) (hm : behindInMarks op b = false) (hf : OpF X W fla flb fl r f) (ha : VE X W fla a φa) (hb : VE X W flb b φb) : VE X W fl (.Compare a [op] [b] pos) (op2 f φa φb) := by
  obtain ⟨ta, pa, ra⟩ := ha
  obtain ⟨tb, pb, rb⟩ := hb
  refine ⟨_, pe_cmpR ho pa pb hm, fun H0 M0 M H σ env Q g h => ?_⟩
  refine ra H0 M0 M H σ env _ g (PostE.seq h fun d v H1 e1 r1 h1 => ?_)
  refine rb H0 M0 M H1 σ env _ (g.mono e1) (PostE.seq h1 fun d2 v2 H2 e2 r2 h2 => ?_)
  exact hf M H2 σ Q d d2 v v2 ((g.ok.mono e1).mono e2) (r1.mono (vis_mono e2.v)) r2 h2
def toB : D → Res Bool
  | .bl b => .ok b
  | _ => .bad
def tE (φ : Env → Res D) (env : Env) : Res Bool := (φ env).bind toB
theorem vt_cmp {op : CmpOp} {r : R2} {f : D → D → Res D} (ho : OpR X (compareOp op) r) (hm : behindInMarks op b = false) (hf : OpF X W fla flb true r f) (ha : VE X W fla a φa) (hb : VE X W flb b φb) : VT X W (.Compare a [op] [b] pos) (tE (op2 f φa φb)) := by
  obtain ⟨ta, pa, ra⟩ := ha
  obtain ⟨tb, pb, rb⟩ := hb
  refine ⟨_, pt_cmpR ho pa pb hm, fun H0 M0 M H σ env Q g h => ?_⟩
  have h' : PostE X W true M σ H (fun x H' => ∃ k, x = .bl k ∧ Q k H') (op2 f φa φb env) := by
    refine PostT.seq h fun d v H1 e1 r1 h1 => ?_
    cases d with
    | bl k => cases r1; exact ⟨k, rfl, h1 H1 (Ext.refl _)⟩
    | _ => exact h1.elim
  refine ra H0 M0 M H σ env _ g (PostE.seq h' fun d v H1 e1 r1 h1 => ?_)
  refine rb H0 M0 M H1 σ env _ (g.mono e1) (PostE.seq h1 fun d2 v2 H2 e2 r2 h2 => ?_)
  exact hf M H2 σ _ d d2 v v2 ((g.ok.mono e1).mono e2) (r1.mono (vis_mono e2.v)) r2 h2
theorem vt_val (h : VE X W fl e φ) (he : ∀ whole, isTrue e X.env whole = (do let v ← whole; standAt e.pos; holding [v] (truthy v)) := by intro _; rfl) : VT X W e (tE φ) := by
  obtain ⟨t, pt, rt⟩ := h
  refine ⟨_, pt_val pt he, fun H0 M0 M H σ env Q g h => ?_⟩
  refine rt H0 M0 M H σ env _ g (PostT.seq h fun d v H1 e1 r1 h1 => ?_)
  cases d with
  | bl k => cases r1; exact ⟨k, rfl, h1 H1 (Ext.refl _)⟩
  | _ => exact h1.elim
end
end VL

set_option maxRecDepth 100000
set_option maxHeartbeats 2000000
namespace VL
open PySem L2
open PySem.AutoSeq1 (wpAny_loadPart')

theorem tup_mul_same (l : Addr) (items : Array Value) (n : Nat) (dd : Option Addr) (sl : Array (Option Value)) (x : Int) (u : Tok)
    (c0 : (decide (x < -(2 ^ 63)) || decide (x ≥ 2 ^ 63)) = false) (c1 : (items.isEmpty || x == 1) = true) :
    Meets (Builtin.«tuple.__mul__» ⟨[.ref l, .int x u], []⟩)
      (fun _ R s => s.heap.get? l = some { cls := .type "tuple", dict := dd, data := .seq items n, slots := sl } ∧ R (.ok (.ret (.ref l))) s) :=
  .of_wp fun prog w A R s h => by
    obtain ⟨hp, g, d, tk, os⟩ := s
    obtain ⟨hl, h⟩ := h
    have f1 := AutoSeq1.idx_int
    wp_walk using wpAny_loadPart' hl
    repeat (first
      | (refine wpAny_ite_false (decide_eq_false (by rw [c0]; exact Bool.false_ne_true)) ?_; wp_walk using wpAny_loadPart' hl)
      | (refine wpAny_ite_true (decide_eq_true c1) ?_; wp_walk using wpAny_loadPart' hl))
    exact ⟨_, rfl, h⟩
theorem tup_mul_none (l : Addr) (items : Array Value) (n : Nat) (dd : Option Addr) (sl : Array (Option Value)) (x : Int) (u : Tok)
    (c0 : (decide (x < -(2 ^ 63)) || decide (x ≥ 2 ^ 63)) = false) (c1 : (items.isEmpty || x == 1) = false) (c2 : (decide (x ≤ 0) || items.isEmpty) = true) :
    Meets (Builtin.«tuple.__mul__» ⟨[.ref l, .int x u], []⟩)
      (fun _ R s => s.heap.get? l = some { cls := .type "tuple", dict := dd, data := .seq items n, slots := sl } ∧
        R (.ok (.ret (.ref s.heap.objs.size))) { s with heap := s.heap.push { cls := .type "tuple", data := .seq #[] }, toks := s.toks }) :=
  .of_wp fun prog w A R s h => by
    obtain ⟨hp, g, d, tk, os⟩ := s
    obtain ⟨hl, h⟩ := h
    have f1 := AutoSeq1.idx_int
    wp_walk using wpAny_loadPart' hl
    repeat (first
      | (refine wpAny_ite_false (decide_eq_false (by rw [c0]; exact Bool.false_ne_true)) ?_; wp_walk using wpAny_loadPart' hl)
      | (refine wpAny_ite_false (decide_eq_false (by rw [c1]; exact Bool.false_ne_true)) ?_; wp_walk using wpAny_loadPart' hl)
      | (refine wpAny_ite_true (decide_eq_true c2) ?_; wp_walk using wpAny_loadPart' hl))
    exact ⟨_, rfl, h⟩
section
variable {X : Cx}
def rMulT (K : PySem.W.Frag) : R2 := fun x y H Q => ∃ l k xs, x = .ref l ∧ y = .int k ∧ SqT K H l xs ∧ -1000 ≤ k ∧ k ≤ 1000 ∧ xs.length ≤ 1000 ∧
  ((xs = [] ∨ k = 1) → Q (.ref l) H) ∧ (xs ≠ [] → k ≤ 0 → ∀ p, H p = none → Q (.ref p) (upd H p (.tup []))) ∧
  (xs ≠ [] → 2 ≤ k → ∀ p, H p = none → Q (.ref p) (upd H p (.tup (List.replicate k.toNat xs).flatten)))
theorem op_mulT : OpR X (binaryOp .Mult) (rMulT X.K) := by
  intro pins s σ H x y v u Q I rx ry h
  obtain ⟨l, k, xs, ex, ey, hT, hlo, hhi, hlen, q1, q2, q3⟩ := h
  by_cases big : xs ≠ [] ∧ 2 ≤ k
  · exact op_repT pins s σ H x y v u Q I rx ry ⟨l, k, xs, ex, ey, hT, big.1, big.2, hhi, hlen, q3 big.1 big.2⟩
  · subst ex; subst ey
    cases rx
    obtain ⟨t, rfl⟩ := ry
    obtain ⟨its, r, ⟨⟨cls, dd, data, sl⟩, ho, hc, n, hd⟩, hs⟩ := I.tuple hT
    simp only at hc hd
    subst hc hd
    have hlr : its.length = xs.length := r.length.symm
    have c0 : (decide (k < -(2 ^ 63)) || decide (k ≥ 2 ^ 63)) = false := by
      rw [decide_eq_false (by omega), decide_eq_false (by omega)]
      exact rfl
    by_cases same : xs = [] ∨ k = 1
    · have c1 : (its.toArray.isEmpty || k == 1) = true := by
        rcases same with e | e
        · subst e
          have : its = [] := List.eq_nil_of_length_eq_zero (by rw [hlr]; exact List.length_nil)
          subst this
          exact rfl
        · subst e
          exact Bool.or_true _
      refine wpAny_binaryOp_repeat_ref (T := "tuple") (U := "int") (by decide) ⟨_, ho, rfl⟩ (fun s' => typeIs_int s' k t) noFill_tuple_mul F.fills_int_mul F.slot_int_rmul repeat_tuple F.slot_int_index.lookup
        (call_meets F.slot_int_rmul (typeIs_int s k t) F.entry_int_rmul (F.args_int_rmul_2 _ _) (int_rmul_tuple k t l its.toArray n dd sl)
          ⟨ho, rfl, ⟨_, ho, rfl⟩, call_meets F.slot_tuple_mul ⟨_, ho, rfl⟩ F.entry_tuple_mul (F.args_tuple_mul_2 _ _) (tup_mul_same l its.toArray n dd sl k t c0 c1) ⟨ho, ?_⟩⟩)
      exact ⟨.ref l, H, I, rfl, q1 same⟩
    · have hne : xs ≠ [] := fun e => same (.inl e)
      have hk : k ≤ 0 := by
        have h1 : ¬ 2 ≤ k := fun h => big ⟨hne, h⟩
        have h2 : k ≠ 1 := fun h => same (.inr h)
        omega
      have hi : its.toArray.isEmpty = false := by
        cases its with
        | nil => exact absurd (List.eq_nil_of_length_eq_zero hlr.symm) hne
        | cons a b => exact rfl
      have c1 : (its.toArray.isEmpty || k == 1) = false := by
        rw [hi, Bool.false_or]
        exact beq_eq_false_iff_ne.mpr (by omega)
      have c2 : (decide (k ≤ 0) || its.toArray.isEmpty) = true := by
        rw [decide_eq_true hk]
        exact rfl
      refine wpAny_binaryOp_repeat_ref (T := "tuple") (U := "int") (by decide) ⟨_, ho, rfl⟩ (fun s' => typeIs_int s' k t) noFill_tuple_mul F.fills_int_mul F.slot_int_rmul repeat_tuple F.slot_int_index.lookup
        (call_meets F.slot_int_rmul (typeIs_int s k t) F.entry_int_rmul (F.args_int_rmul_2 _ _) (int_rmul_tuple k t l its.toArray n dd sl)
          ⟨ho, rfl, ⟨_, ho, rfl⟩, call_meets F.slot_tuple_mul ⟨_, ho, rfl⟩ F.entry_tuple_mul (F.args_tuple_mul_2 _ _) (tup_mul_none l its.toArray n dd sl k t c0 c1 c2) ⟨ho, ?_⟩⟩)
      exact ⟨.ref s.heap.objs.size, _, I.laid (t' := s.toks) (o := .tup []) (fun b ob q => Heap.get?_push_of_some _ q) (Nat.le_refl _) ⟨Nat.zero_le _, [], .nil, PyProof.Rows.IsTup.new _ _⟩, rfl, q2 hne hk _ (I.hok.fresh (Nat.le_refl _))⟩
def rMulS : R2 := fun x y H Q => ∃ z k, x = .str z ∧ y = .int k ∧ -1000 ≤ k ∧ k ≤ 1000 ∧ z.length ≤ 1000 ∧ Q (.str ⟨(List.replicate k.toNat z.cps.toList).flatten.toArray⟩) H
theorem foldl_cat : ∀ (n : Nat) (z : Array Nat) (a : List Nat), (List.replicate n z).foldl (· ++ ·) a.toArray = (a ++ (List.replicate n z.toList).flatten).toArray
  | 0, z, a => by simp
  | n + 1, z, a => by
    rw [List.replicate_succ, List.foldl_cons, List.replicate_succ, List.flatten_cons, ← List.append_assoc]
    have e : a.toArray ++ z = (a ++ z.toList).toArray := by simp
    rw [e]
    exact foldl_cat n z _
theorem op_mulS : OpR X (binaryOp .Mult) rMulS := by
  intro pins s σ H x y v u Q I rx ry h
  obtain ⟨z, k, rfl, rfl, hlo, hhi, hlen, q⟩ := h
  obtain ⟨t, rfl⟩ := rx
  obtain ⟨t', rfl⟩ := ry
  have c0 : (decide (k < -(2 ^ 63)) || decide (k ≥ 2 ^ 63)) = false := by
    rw [decide_eq_false (by omega), decide_eq_false (by omega)]
    exact rfl
  refine PySem.P.mul_str c0 (fun h1 h2 => ?_) (fun h1 h2 => ?_) ?_
  · have h3 : ((z.length : Nat) : Int) ≤ 1000 := by omega
    have h4 : (1000 : Int) ≤ (2 ^ 63 - 1) / k := by
      refine (Int.le_ediv_iff_mul_le (by omega)).mpr ?_
      have : 1000 * k ≤ 1000 * 1000 := Int.mul_le_mul_of_nonneg_left hhi (by omega)
      omega
    omega
  · unfold Builtin.Str.tooLong
    have : z.length * k.toNat ≤ 1000 * 1000 := Nat.mul_le_mul hlen (by omega)
    rw [sizeLine_eq]
    exact decide_eq_false (by omega)
  · by_cases h1 : k < 1
    · rw [if_pos h1]
      have e : k.toNat = 0 := by omega
      rw [e] at q
      refine ⟨by decide, ?_⟩
      exact ⟨.str _, H, I.tok _, ⟨_, rfl⟩, q⟩
    · rw [if_neg h1]
      by_cases h2 : (k == 1 || z.length == 0) = true
      · rw [if_pos h2]
        have e : (⟨(List.replicate k.toNat z.cps.toList).flatten.toArray⟩ : Str) = z := by
          rcases Bool.or_eq_true_iff.mp h2 with h3 | h3
          · have : k = 1 := by simpa using h3
            subst this
            show (⟨(List.replicate 1 z.cps.toList).flatten.toArray⟩ : Str) = z
            simp
          · have hz : z.cps.toList = [] := List.eq_nil_of_length_eq_zero (by simpa [Str.length] using h3)
            have : z = ⟨#[]⟩ := by
              cases z with
              | mk c => simp at hz; rw [hz]
            subst this
            simp
        rw [e] at q
        exact ⟨.str z, H, I, ⟨t, rfl⟩, q⟩
      · rw [if_neg h2]
        have e : (List.replicate k.toNat z.cps).foldl (· ++ ·) #[] = (List.replicate k.toNat z.cps.toList).flatten.toArray := by
          have := foldl_cat k.toNat z.cps []
          rw [List.nil_append] at this
          exact this
        rw [e]
        refine ⟨?_, ?_⟩
        · show (List.replicate k.toNat z.cps.toList).flatten.toArray.size ≤ sizeLine
          rw [List.size_toArray, PyProof.Rows.lm_len_rep_flat, sizeLine_eq]
          have a1 : k.toNat * z.cps.toList.length ≤ 1000 * 1000 := Nat.mul_le_mul (by omega) (by simpa [Str.length] using hlen)
          omega
        · exact ⟨.str _, H, I.tok _, ⟨_, rfl⟩, q⟩
def rCatL : R2 := fun x y H Q => ∃ l b xs zs, x = .ref l ∧ y = .ref b ∧ Rd H l (.lst xs) ∧ Rd H b (.lst zs) ∧ xs.length + zs.length ≤ sizeLine ∧ ∀ p, H p = none → Q (.ref p) (upd H p (.lst (xs ++ zs)))
theorem op_catL : OpR X (binaryOp .Add) rCatL := by
  intro pins s σ H x y v u Q I rx ry h
  obtain ⟨l, b, xs, zs, rfl, rfl, hl, hb, hz, q⟩ := h
  cases rx
  cases ry
  obtain ⟨z1, i1, n1, r1, e1⟩ := hl.ok I.hok
  obtain ⟨z2, i2, n2, r2, e2⟩ := hb.ok I.hok
  have l1 := r1.length
  have l2 := r2.length
  refine PySem.P.add_list e1 e2 ?_ (by rw [List.size_toArray, List.size_toArray]; omega)
  have ea : i1.toArray ++ i2.toArray = (i1 ++ i2).toArray := by simp
  rw [ea]
  exact ⟨.ref _, _, I.lnew (t' := s.toks) (r1.append r2) (by rw [List.length_append]; exact hz), rfl, q _ I.fresh⟩
end
end VL

set_option maxRecDepth 100000
set_option maxHeartbeats 2000000
namespace VL
open PySem L2

section
variable {mg : Gm} {M : Addr → Bool} {H : Hp} {fl : Bool} {p : Addr}
theorem vis_new {o : HO} (m : MOk M H) (h : H p = none) (n : NF o) : vis fl M (vw (upd H p o)) p = some o := by
  cases fl with
  | false => exact vw_upd_same n
  | true =>
    show Sh M (vw (upd H p o)) p = some o
    rw [Sh_of]
    · exact vw_upd_same n
    · cases q : M p with
      | false => rfl
      | true =>
        obtain ⟨u, e⟩ := m.dom p q
        rw [h] at e; cases e
theorem rp_newT {ds : List D} {xs : List V} (m : MOk M H) (h : H p = none) (r : RpL mg (vis fl M (vw H)) ds xs) : Rp mg (vis fl M (vw (upd H p (.tup xs)))) (.tup ds) (.ref p) :=
  .tup (vis_new m h trivial) (r.mono (vis_mono (Ext.new h).v))
theorem rp_newL {ds : List D} {xs : List V} (m : MOk M H) (h : H p = none) (r : RpL mg (vis fl M (vw H)) ds xs) : Rp mg (vis fl M (vw (upd H p (.lst xs)))) (.lst ds) (.ref p) :=
  .lst (vis_new m h trivial) (r.mono (vis_mono (Ext.new h).v))
theorem vis_get {G : Vw} {a : Addr} {u : HO} (h : vis fl M G a = some u) : G a = some u := vis_le fl M G a u h
end

def addD : D → D → Res D
  | .int i, .int j => .ok (.int (i + j))
  | .str s, .str t => if s.length + t.length ≤ sizeLine then .ok (.str (s ++ t)) else .bad
  | .tup xs, .tup ys => if xs.length + ys.length ≤ sizeLine then .ok (.tup (xs ++ ys)) else .bad
  | .lst xs, .lst ys => if xs.length + ys.length ≤ sizeLine then .ok (.lst (xs ++ ys)) else .bad
  | _, _ => .bad
def subD : D → D → Res D
  | .int i, .int j => .ok (.int (i - j))
  | _, _ => .bad
def mulD : D → D → Res D
  | .int i, .int j => if i.natAbs.log2 + j.natAbs.log2 < 1000000 then .ok (.int (i * j)) else .bad
  | .str s, .int k => if -1000 ≤ k ∧ k ≤ 1000 ∧ s.length ≤ 1000 then .ok (.str ⟨(List.replicate k.toNat s.cps.toList).flatten.toArray⟩) else .bad
  | .tup xs, .int k => if -1000 ≤ k ∧ k ≤ 1000 ∧ xs.length ≤ 1000 then .ok (.tup (List.replicate k.toNat xs).flatten) else .bad
  | _, _ => .bad
def modD : D → D → Res D
  | .int i, .int j => if 0 < j then .ok (.int (i % j)) else .bad
  | _, _ => .bad
def fdivD : D → D → Res D
  | .int i, .int j => if 0 < j ∧ j < 1073741824 then .ok (.int (i / j)) else .bad
  | _, _ => .bad
def powD : D → D → Res D
  | .int i, .int j => if 0 ≤ j ∧ j ≤ 1000000 ∧ i.natAbs < 2 ^ 64 then .ok (.int (i ^ j.toNat)) else .bad
  | _, _ => .bad
def ltD : D → D → Res D
  | .int i, .int j => .ok (.bl (decide (i < j)))
  | _, _ => .bad
def leD : D → D → Res D
  | .int i, .int j => .ok (.bl (decide (i ≤ j)))
  | _, _ => .bad
def gtD : D → D → Res D
  | .int i, .int j => .ok (.bl (decide (j < i)))
  | _, _ => .bad
def geD : D → D → Res D
  | .int i, .int j => .ok (.bl (decide (j ≤ i)))
  | _, _ => .bad
def eqO (d e : D) : Res D := if cmpOk d = true ∧ cmpOk e = true then .ok (.bl (eqD d e)) else .bad
def neO (d e : D) : Res D := if cmpOk d = true ∧ cmpOk e = true then .ok (.bl (!eqD d e)) else .bad
def isNon : D → Bool
  | .non => true
  | _ => false
def isNO (d : D) : D → Res D
  | .non => .ok (.bl (isNon d))
  | _ => .bad
def notNO (d : D) : D → Res D
  | .non => .ok (.bl (!isNon d))
  | _ => .bad
section
variable {X : Cx} {W : WX} {fl fla flb : Bool}
def rAddA (K : PySem.W.Frag) : R2 := fun x y H Q => rI0 (fun i j => .int (i + j)) x y H Q ∨ (∃ i j, x = .str i ∧ y = .str j ∧ i.length + j.length ≤ sizeLine ∧ Q (.str (i ++ j)) H) ∨ rCatA K x y H Q ∨ rCatL x y H Q
theorem op_addA : OpR X (binaryOp .Add) (rAddA X.K) := op_add.or (op_add_str.or (op_catA.or op_catL))
theorem nil_of_lenV {mg : Gm} {G : Vw} {ds : List D} (r : RpL mg G ds []) : ds = [] := List.eq_nil_of_length_eq_zero r.length
theorem of_add : OpF X W fl fl fl (rAddA X.K) addD := by
  intro M H σ Q d e v w m rd re h
  cases rd <;> cases re <;> first | exact h.elim | skip
  case int.int i j => exact .inl ⟨i, j, rfl, rfl, h _ H (Ext.refl H) (.int _)⟩
  case str.str s t =>
    obtain ⟨hs, h⟩ := PostE.ite h
    exact .inr (.inl ⟨s, t, rfl, rfl, hs, h _ H (Ext.refl H) (.str _)⟩)
  case tup.tup a xs ds ha ra b ys es hb rb =>
    obtain ⟨hs, h⟩ := PostE.ite h
    rw [ra.length, rb.length] at hs
    refine .inr (.inr (.inl ⟨a, b, xs, ys, rfl, rfl, .inl (.inl (vw_tup (vis_get ha))), .inl (.inl (vw_tup (vis_get hb))), hs, fun hx => ?_, fun _ hy => ?_, fun _ _ p hp => ?_⟩))
    · subst hx
      have := nil_of_lenV ra
      subst this
      exact h _ H (Ext.refl H) (.tup hb rb)
    · subst hy
      have := nil_of_lenV rb
      subst this
      rw [List.append_nil] at h
      exact h _ H (Ext.refl H) (.tup ha ra)
    · exact h _ _ (Ext.new hp) (rp_newT m hp (ra.append rb))
  case lst.lst a xs ds ha ra b ys es hb rb =>
    obtain ⟨hs, h⟩ := PostE.ite h
    rw [ra.length, rb.length] at hs
    exact .inr (.inr (.inr ⟨a, b, xs, ys, rfl, rfl, vw_lst (vis_get ha), vw_lst (vis_get hb), hs, fun p hp => h _ _ (Ext.new hp) (rp_newL m hp (ra.append rb))⟩))
def rMulA (K : PySem.W.Frag) : R2 := fun x y H Q => rI CMulW (fun i j => .int (i * j)) x y H Q ∨ rMulS x y H Q ∨ rMulT K x y H Q
theorem op_mulA : OpR X (binaryOp .Mult) (rMulA X.K) := op_mulW.or (op_mulS.or op_mulT)
theorem RpL.rep {mg : Gm} {G : Vw} {ds : List D} {xs : List V} (r : RpL mg G ds xs) : ∀ n : Nat, RpL mg G (List.replicate n ds).flatten (List.replicate n xs).flatten
  | 0 => .nil
  | n + 1 => by
    rw [List.replicate_succ, List.replicate_succ, List.flatten_cons, List.flatten_cons]
    exact r.append (RpL.rep r n)
theorem rep_nil {α : Type} : ∀ n : Nat, (List.replicate n ([] : List α)).flatten = []
  | 0 => rfl
  | n + 1 => by rw [List.replicate_succ, List.flatten_cons, rep_nil n]; rfl
theorem of_mul : OpF X W fl flb fl (rMulA X.K) mulD := by
  intro M H σ Q d e v w m rd re h
  cases rd <;> cases re <;> first | exact h.elim | skip
  case int.int i j =>
    obtain ⟨hs, h⟩ := PostE.ite h
    exact .inl ⟨i, j, rfl, rfl, hs, h _ H (Ext.refl H) (.int _)⟩
  case str.int s k =>
    obtain ⟨hs, h⟩ := PostE.ite h
    exact .inr (.inl ⟨s, k, rfl, rfl, hs.1, hs.2.1, hs.2.2, h _ H (Ext.refl H) (.str _)⟩)
  case tup.int a xs ds ha ra k =>
    obtain ⟨hs, h⟩ := PostE.ite h
    rw [ra.length] at hs
    refine .inr (.inr ⟨a, k, xs, rfl, rfl, .inl (.inl (vw_tup (vis_get ha))), hs.1, hs.2.1, hs.2.2, fun hx => ?_, fun _ hk p hp => ?_, fun _ hk p hp => ?_⟩)
    · refine h _ H (Ext.refl H) ?_
      rcases hx with hx | hx
      · subst hx
        have := nil_of_lenV ra
        subst this
        rw [rep_nil]
        exact .tup ha ra
      · subst hx
        have e : (List.replicate (1 : Int).toNat ds).flatten = ds := by
          show (List.replicate 1 ds).flatten = ds
          simp
        rw [e]
        exact .tup ha ra
    · have e : k.toNat = 0 := by omega
      rw [e] at h
      exact h _ _ (Ext.new hp) (rp_newT m hp .nil)
    · exact h _ _ (Ext.new hp) (rp_newT m hp (ra.rep _))
theorem of_mod : OpF X W fla flb fl (rI (fun _ j => 0 < j) fun i j => .int (i % j)) modD := by
  intro M H σ Q d e v w m rd re h
  cases rd <;> cases re <;> first | exact h.elim | skip
  obtain ⟨hs, h⟩ := PostE.ite h
  exact ⟨_, _, rfl, rfl, hs, h _ H (Ext.refl H) (.int _)⟩
theorem of_fdiv : OpF X W fla flb fl (rI CDiv fun i j => .int (i / j)) fdivD := by
  intro M H σ Q d e v w m rd re h
  cases rd <;> cases re <;> first | exact h.elim | skip
  obtain ⟨hs, h⟩ := PostE.ite h
  exact ⟨_, _, rfl, rfl, hs, h _ H (Ext.refl H) (.int _)⟩
theorem of_pow : OpF X W fla flb fl (rI CPow fun i j => .int (i ^ j.toNat)) powD := by
  intro M H σ Q d e v w m rd re h
  cases rd <;> cases re <;> first | exact h.elim | skip
  obtain ⟨hs, h⟩ := PostE.ite h
  exact ⟨_, _, rfl, rfl, hs, h _ H (Ext.refl H) (.int _)⟩
theorem of_lt : OpF X W fla flb fl (rI0 fun i j => .bl (decide (i < j))) ltD := by
  intro M H σ Q d e v w m rd re h
  cases rd <;> cases re <;> first | exact h.elim | skip
  exact ⟨_, _, rfl, rfl, h _ H (Ext.refl H) (.bl _)⟩
theorem of_le : OpF X W fla flb fl (rI0 fun i j => .bl (decide (i ≤ j))) leD := by
  intro M H σ Q d e v w m rd re h
  cases rd <;> cases re <;> first | exact h.elim | skip
  exact ⟨_, _, rfl, rfl, h _ H (Ext.refl H) (.bl _)⟩
theorem of_gt : OpF X W fla flb fl (rI0 fun i j => .bl (decide (j < i))) gtD := by
  intro M H σ Q d e v w m rd re h
  cases rd <;> cases re <;> first | exact h.elim | skip
  exact ⟨_, _, rfl, rfl, h _ H (Ext.refl H) (.bl _)⟩
theorem of_ge : OpF X W fla flb fl (rI0 fun i j => .bl (decide (j ≤ i))) geD := by
  intro M H σ Q d e v w m rd re h
  cases rd <;> cases re <;> first | exact h.elim | skip
  exact ⟨_, _, rfl, rfl, h _ H (Ext.refl H) (.bl _)⟩
theorem of_eq : OpF X W fla flb fl (rEqD X.K) eqO := by
  intro M H σ Q d e v w m rd re h
  obtain ⟨hs, h⟩ := PostE.ite h
  obtain ⟨p1, s1⟩ := Bool.and_eq_true_iff.mp hs.1
  obtain ⟨p2, s2⟩ := Bool.and_eq_true_iff.mp hs.2
  exact ⟨toPy d, toPy e, (rd.mono (vis_le fla M _)).dp p1, (re.mono (vis_le flb M _)).dp p2, s1, s2, h _ H (Ext.refl H) (.bl _)⟩
theorem of_ne : OpF X W fla flb fl (rNeD X.K) neO := by
  intro M H σ Q d e v w m rd re h
  obtain ⟨hs, h⟩ := PostE.ite h
  obtain ⟨p1, s1⟩ := Bool.and_eq_true_iff.mp hs.1
  obtain ⟨p2, s2⟩ := Bool.and_eq_true_iff.mp hs.2
  exact ⟨toPy d, toPy e, (rd.mono (vis_le fla M _)).dp p1, (re.mono (vis_le flb M _)).dp p2, s1, s2, h _ H (Ext.refl H) (.bl _)⟩
theorem isNon_of {mg : Gm} {G : Vw} {d : D} {v : V} (r : Rp mg G d v) : decide (v = .non) = isNon d := by
  cases r <;> first | rfl | exact decide_eq_false (by intro q; cases q)
theorem of_isN : OpF X W fla flb fl (fun x y H Q => y = .non ∧ Q (.bl (decide (x = .non))) H) isNO := by
  intro M H σ Q d e v w m rd re h
  cases re <;> first | exact h.elim | skip
  refine ⟨rfl, ?_⟩
  rw [isNon_of rd]
  exact h _ H (Ext.refl H) (.bl _)
end
end VL

set_option maxRecDepth 100000
set_option maxHeartbeats 2000000
namespace VL
open PySem L2

def flatD : D → Bool
  | .non => true | .bl _ => true | .int _ => true | .str _ => true
  | _ => false
mutual
def eqK : D → D → Bool
  | .non, .non => true
  | .bl a, .bl b => a == b
  | .int a, .int b => a == b
  | .str a, .str b => a == b
  | .tup xs, .tup ys => eqKs xs ys
  | _, _ => false
def eqKs : List D → List D → Bool
  | [], [] => true
  | x :: xs, y :: ys => eqK x y && eqKs xs ys
  | _, _ => false
end
def keyOf : D → Option Key
  | .int i => some (.inl i)
  | .str s => some (.inr s)
  | _ => none
def keysOf : List D → Option (List Key)
  | [] => some []
  | d :: ds => match keyOf d, keysOf ds with
    | some k, some ks => some (k :: ks)
    | _, _ => none
def lookD (es : List (D × D)) (k : D) : Option D := (es.find? fun p => eqK p.1 k).map (·.2)
def inD : D → D → Res D
  | d, .lst es => if cmpOk d = true ∧ cmpOk (.lst es) = true then .ok (.bl (es.any fun z => eqD z d)) else .bad
  | d, .tup es => if flatD d = true ∧ es.all flatD = true then .ok (.bl (es.any fun z => eqD z d)) else .bad
  | .str c, .str z => match c.cps.toList with
    | [x] => .ok (.bl (decide (x ∈ z.cps.toList)))
    | _ => .bad
  | _, _ => .bad
def notD : D → Res D
  | .bl b => .ok (.bl (!b))
  | _ => .bad
theorem eqV_eq {mg : Gm} {G : Vw} {d e : D} {v w : V} (r : Rp mg G d v) (q : Rp mg G e w) (hd : flatD d = true) (he : flatD e = true) : eqV v w = eqD d e := by
  cases r <;> first | (cases hd; done) | skip
  all_goals (cases q <;> first | (cases he; done) | skip)
  all_goals (simp only [eqV, eqD, toPy, PyData.eqv])
theorem flat_of {mg : Gm} {G : Vw} {d : D} {v : V} (r : Rp mg G d v) (h : flatD d = true) : flatV v = true := by
  cases r <;> first | rfl | (cases h; done)
theorem any_eqD {mg : Gm} {G : Vw} {e : D} {w : V} (q : Rp mg G e w) (he : flatD e = true) : ∀ {ds : List D} {vs : List V}, RpL mg G ds vs → ds.all flatD = true → (vs.all flatV = true) ∧ (vs.any fun y => eqV y w) = ds.any fun z => eqD z e
  | _, _, .nil, _ => ⟨rfl, rfl⟩
  | _, _, .cons r t, h => by
    rw [List.all_cons] at h
    obtain ⟨h1, h2⟩ := Bool.and_eq_true_iff.mp h
    obtain ⟨i1, i2⟩ := any_eqD q he t h2
    rw [List.all_cons, List.any_cons, List.any_cons, i1, i2, flat_of r h1, eqV_eq r q h1 he]
    exact ⟨rfl, rfl⟩
section
variable {X : Cx} {W : WX} {fl fla flb : Bool}
def rInA (K : PySem.W.Frag) : R2 := fun x y H Q => rInD K x y H Q ∨ rIn K false x y H Q ∨ ∃ (c : Nat) (z : Str), x = .str ⟨#[c]⟩ ∧ y = .str z ∧ Q (.bl (decide (c ∈ z.cps.toList))) H
theorem op_inA (hu : X.A.units + 65 < cLine) : OpR X (compareOp .In) (rInA X.K) := (op_inD hu).or (op_in_seq.or op_in_sign)
def rNotInA (K : PySem.W.Frag) : R2 := fun x y H Q => rNotInD K x y H Q ∨ rIn K true x y H Q ∨ ∃ (c : Nat) (z : Str), x = .str ⟨#[c]⟩ ∧ y = .str z ∧ Q (.bl (!decide (c ∈ z.cps.toList))) H
theorem op_notInA (hu : X.A.units + 65 < cLine) : OpR X (compareOp .NotIn) (rNotInA X.K) := (op_notInD hu).or (op_notIn_seq.or op_notIn_sign)
theorem str_one {c : Str} {x : Nat} (h : c.cps.toList = [x]) : c = ⟨#[x]⟩ := by
  cases c with
  | mk a =>
    have h' : a.toList = [x] := h
    have : a = #[x] := Array.toList_inj.mp h'
    rw [this]
theorem inD_lst (d : D) (es : List D) : inD d (.lst es) = if cmpOk d = true ∧ cmpOk (.lst es) = true then .ok (.bl (es.any fun z => eqD z d)) else .bad := by cases d <;> rfl
theorem inD_tup (d : D) (es : List D) : inD d (.tup es) = if flatD d = true ∧ es.all flatD = true then .ok (.bl (es.any fun z => eqD z d)) else .bad := by cases d <;> rfl
theorem toPys_any (d : D) : ∀ es : List D, ((toPys es).any fun z => PyData.eqv z (toPy d)) = es.any fun z => eqD z d
  | [] => by rw [toPys]; rfl
  | e :: es => by
    rw [toPys, List.any_cons, List.any_cons, toPys_any d es]
    rfl
theorem rIn_of {M : Addr → Bool} {H : Hp} {d : D} {v : V} {es : List D} {w : V} (rd : Rp (gm X) (vis fla M (vw H)) d v) (re : Rp (gm X) (vis flb M (vw H)) (.lst es) w)
    (hs : cmpOk d = true ∧ cmpOk (.lst es) = true) : ∃ x ds, Dp X.K H v x ∧ Dp X.K H w (.list ds) ∧ SeqAt.shaped x = true ∧ SeqAt.shaped (.list ds) = true ∧ (ds.any fun z => PyData.eqv z x) = es.any fun z => eqD z d := by
  obtain ⟨p1, s1⟩ := Bool.and_eq_true_iff.mp hs.1
  obtain ⟨p2, s2⟩ := Bool.and_eq_true_iff.mp hs.2
  have e : toPy (.lst es) = .list (toPys es) := by rw [toPy]
  have q := (re.mono (vis_le flb M _)).dp p2
  rw [e] at q s2
  exact ⟨toPy d, toPys es, (rd.mono (vis_le fla M _)).dp p1, q, s1, s2, toPys_any d es⟩
theorem of_in : OpF X W fla flb fl (rInA X.K) inD := by
  intro M H σ Q d e v w m rd re h
  have rd' := rd.mono (vis_le fla M _)
  have re' := re.mono (vis_le flb M _)
  cases e with
  | lst es =>
    rw [inD_lst] at h
    obtain ⟨hs, h⟩ := PostE.ite h
    obtain ⟨x, ds, a1, a2, a3, a4, a5⟩ := rIn_of (X := X) rd re hs
    refine .inl ⟨x, ds, a1, a2, a3, a4, ?_⟩
    rw [a5]
    exact h _ H (Ext.refl H) (.bl _)
  | tup es =>
    rw [inD_tup] at h
    obtain ⟨hs, h⟩ := PostE.ite h
    cases re' with
    | tup hb rb =>
      obtain ⟨i1, i2⟩ := any_eqD rd' hs.1 rb hs.2
      refine .inr (.inl ⟨_, _, rfl, .inr (.inl (.inl (vw_tup hb))), flat_of rd' hs.1, i1, ?_⟩)
      show Q (.bl (if false = true then _ else inV v _)) H
      rw [if_neg Bool.false_ne_true]
      unfold inV
      rw [i2]
      exact h _ H (Ext.refl H) (.bl _)
  | str z =>
    cases d with
    | str c =>
      cases rd'
      cases re'
      have h' : PostE X W fl M σ H Q (match c.cps.toList with | [x] => .ok (.bl (decide (x ∈ z.cps.toList))) | _ => .bad) := h
      cases q : c.cps.toList with
      | nil => rw [q] at h'; exact h'.elim
      | cons x r =>
        cases r with
        | nil =>
          rw [q] at h'
          refine .inr (.inr ⟨x, z, ?_, rfl, h' _ H (Ext.refl H) (.bl _)⟩)
          rw [str_one q]
        | cons y r => rw [q] at h'; exact h'.elim
    | _ => exact h.elim
  | _ => cases d <;> exact h.elim
def notInD (d e : D) : Res D := (inD d e).bind notD
theorem of_notIn : OpF X W fla flb fl (rNotInA X.K) notInD := by
  intro M H σ Q d e v w m rd re h
  have rd' := rd.mono (vis_le fla M _)
  have re' := re.mono (vis_le flb M _)
  cases e with
  | lst es =>
    have h' : PostE X W fl M σ H Q (if cmpOk d = true ∧ cmpOk (.lst es) = true then .ok (.bl (!es.any fun z => eqD z d)) else .bad) := by
      unfold notInD at h
      rw [inD_lst] at h
      by_cases c : cmpOk d = true ∧ cmpOk (.lst es) = true
      · rw [if_pos c] at h ⊢; exact h
      · rw [if_neg c] at h; exact h.elim
    obtain ⟨hs, h2⟩ := PostE.ite h'
    obtain ⟨x, ds, a1, a2, a3, a4, a5⟩ := rIn_of (X := X) rd re hs
    refine .inl ⟨x, ds, a1, a2, a3, a4, ?_⟩
    rw [a5]
    exact h2 _ H (Ext.refl H) (.bl _)
  | tup es =>
    have h' : PostE X W fl M σ H Q (if flatD d = true ∧ es.all flatD = true then .ok (.bl (!es.any fun z => eqD z d)) else .bad) := by
      unfold notInD at h
      rw [inD_tup] at h
      by_cases c : flatD d = true ∧ es.all flatD = true
      · rw [if_pos c] at h ⊢; exact h
      · rw [if_neg c] at h; exact h.elim
    obtain ⟨hs, h2⟩ := PostE.ite h'
    cases re' with
    | tup hb rb =>
      obtain ⟨i1, i2⟩ := any_eqD rd' hs.1 rb hs.2
      refine .inr (.inl ⟨_, _, rfl, .inr (.inl (.inl (vw_tup hb))), flat_of rd' hs.1, i1, ?_⟩)
      show Q (.bl (if true = true then !inV v _ else _)) H
      rw [if_pos rfl]
      unfold inV
      rw [i2]
      exact h2 _ H (Ext.refl H) (.bl _)
  | str z =>
    cases d with
    | str c =>
      cases rd'
      cases re'
      have h' : PostE X W fl M σ H Q (Res.bind (match c.cps.toList with | [x] => .ok (.bl (decide (x ∈ z.cps.toList))) | _ => .bad) notD) := h
      cases q : c.cps.toList with
      | nil => rw [q] at h'; exact h'.elim
      | cons x r =>
        cases r with
        | nil =>
          rw [q] at h'
          refine .inr (.inr ⟨x, z, ?_, rfl, h' _ H (Ext.refl H) (.bl _)⟩)
          rw [str_one q]
        | cons y r => rw [q] at h'; exact h'.elim
    | _ => exact h.elim
  | _ => cases d <;> exact h.elim
end

section
variable {X : Cx} {W : WX} {fl fla flb flc : Bool} {e a b c : Expr} {rest : List Expr} {pos : Pos} {φ φa φb φc : Env → Res D} {τ τa τb : Env → Res Bool}
def chE (f f' : D → D → Res D) (φa φb φc : Env → Res D) (env : Env) : Res D := (φa env).bind fun x => (φb env).bind fun y => (f x y).bind fun z => match z with
  | .bl true => (φc env).bind fun w => f' y w
  | .bl false => .ok (.bl false)
  | _ => .bad
theorem chain_go {op op' : CmpOp} {r r' : R2} {f f' : D → D → Res D} {ta tb tc : TE} (hf : OpF X W fla flb true r f) (hf' : OpF X W flb flc true r' f')
    (ra : ∀ (H0 : Hp) (M0 M : Addr → Bool) (H : Hp) (σ : L2.St) (env : Env) (Q : VK), Good (gm X) H0 M0 M H σ env → PostE X W fla M σ H Q (φa env) → ta σ H Q)
    (rb : ∀ (H0 : Hp) (M0 M : Addr → Bool) (H : Hp) (σ : L2.St) (env : Env) (Q : VK), Good (gm X) H0 M0 M H σ env → PostE X W flb M σ H Q (φb env) → tb σ H Q)
    (rc : ∀ (H0 : Hp) (M0 M : Addr → Bool) (H : Hp) (σ : L2.St) (env : Env) (Q : VK), Good (gm X) H0 M0 M H σ env → PostE X W flc M σ H Q (φc env) → tc σ H Q)
    (H0 : Hp) (M0 M : Addr → Bool) (H : Hp) (σ : L2.St) (env : Env) (Q : VK) (g : Good (gm X) H0 M0 M H σ env) (h : PostE X W true M σ H Q (chE f f' φa φb φc env)) : tChain r r' ta tb tc σ H Q := by
  refine ra H0 M0 M H σ env _ g (PostE.seq h fun d v H1 e1 r1 h1 => ?_)
  refine rb H0 M0 M H1 σ env _ (g.mono e1) (PostE.seq h1 fun d2 v2 H2 e2 r2 h2 => ?_)
  refine hf M H2 σ _ d d2 v v2 ((g.ok.mono e1).mono e2) (r1.mono (vis_mono e2.v)) r2 (PostE.seq h2 fun d3 v3 H3 e3 r3 h3 => ?_)
  cases d3 with
  | bl k =>
    cases r3
    refine ⟨k, rfl, ?_⟩
    cases k with
    | true =>
      rw [if_pos rfl]
      refine rc H0 M0 M H3 σ env _ (((g.mono e1).mono e2).mono e3) (PostE.seq h3 fun d4 v4 H4 e4 r4 h4 => ?_)
      exact hf' M H4 σ Q d2 d4 v2 v4 ((((g.ok.mono e1).mono e2).mono e3).mono e4) (r2.mono (vis_mono (e3.trans e4).v)) r4 h4
    | false =>
      rw [if_neg Bool.false_ne_true]
      exact h3 _ H3 (Ext.refl _) (.bl false)
  | _ => exact h3.elim
theorem vt_chain {op op' : CmpOp} {r r' : R2} {f f' : D → D → Res D} (ho : OpR X (compareOp op) r) (hf : OpF X W fla flb true r f) (ho' : OpR X (compareOp op') r') (hf' : OpF X W flb flc true r' f')
    (ha : VE X W fla a φa) (hb : VE X W flb b φb) (hc : VE X W flc c φc) (hm : lastMarks [op, op'] [b, c] = false := by with_unfolding_all rfl) : VT X W (.Compare a [op, op'] [b, c] pos) (tE (chE f f' φa φb φc)) := by
  obtain ⟨ta, pa, ra⟩ := ha
  obtain ⟨tb, pb, rb⟩ := hb
  obtain ⟨tc, pc, rc⟩ := hc
  refine ⟨_, pt_chain ho ho' pa pb pc hm, fun H0 M0 M H σ env Q g h => ?_⟩
  refine chain_go (op := op) (op' := op') hf hf' ra rb rc H0 M0 M H σ env _ g (PostT.seq h fun d v H1 e1 r1 h1 => ?_)
  cases d with
  | bl k => cases r1; exact ⟨k, rfl, h1 H1 (Ext.refl _)⟩
  | _ => exact h1.elim
def andT (τa τb : Env → Res Bool) (env : Env) : Res Bool := (τa env).bind fun b => if b = true then τb env else .ok false
def orT (τa τb : Env → Res Bool) (env : Env) : Res Bool := (τa env).bind fun b => if b = true then .ok true else τb env
def notT (τ : Env → Res Bool) (env : Env) : Res Bool := (τ env).bind fun b => .ok (!b)
def VW (X : Cx) (W : WX) (e : Expr) (τ : Env → Res Bool) : Prop :=
  ∃ t : TT, PW X e t ∧ ∀ (H0 : Hp) (M0 M : Addr → Bool) (H : Hp) (σ : L2.St) (env : Env) (Q : Bool → Hp → Prop), Good (gm X) H0 M0 M H σ env → PostT X W M σ H Q (τ env) → t σ H Q
theorem vt_w (h : VW X W e τ) : VT X W e τ := by
  obtain ⟨t, p, r⟩ := h
  exact ⟨t, p.pt, r⟩
theorem vw_and1 (h : VT X W a τ) : VW X W (.BoolOp .And [a] pos) τ := by
  obtain ⟨t, p, r⟩ := h
  exact ⟨t, pw_and1 p, r⟩
theorem vw_or1 (h : VT X W a τ) : VW X W (.BoolOp .Or [a] pos) τ := by
  obtain ⟨t, p, r⟩ := h
  exact ⟨t, pw_or1 p, r⟩
theorem vw_and (ha : VT X W a τa) (hb : VW X W (.BoolOp .And (b :: rest) pos) τb) : VW X W (.BoolOp .And (a :: b :: rest) pos) (andT τa τb) := by
  obtain ⟨t, p, r⟩ := ha
  obtain ⟨t', p', r'⟩ := hb
  refine ⟨_, pw_and p p', fun H0 M0 M H σ env Q g h => ?_⟩
  refine r H0 M0 M H σ env _ g (PostT.tst h fun k H1 e1 h1 => ?_)
  cases k with
  | true => rw [if_pos rfl] at h1 ⊢; exact r' H0 M0 M H1 σ env Q (g.mono e1) h1
  | false => rw [if_neg Bool.false_ne_true] at h1 ⊢; exact h1 H1 (Ext.refl _)
theorem vw_or (ha : VT X W a τa) (hb : VW X W (.BoolOp .Or (b :: rest) pos) τb) : VW X W (.BoolOp .Or (a :: b :: rest) pos) (orT τa τb) := by
  obtain ⟨t, p, r⟩ := ha
  obtain ⟨t', p', r'⟩ := hb
  refine ⟨_, pw_or p p', fun H0 M0 M H σ env Q g h => ?_⟩
  refine r H0 M0 M H σ env _ g (PostT.tst h fun k H1 e1 h1 => ?_)
  cases k with
  | true => rw [if_pos rfl] at h1 ⊢; exact h1 H1 (Ext.refl _)
  | false => rw [if_neg Bool.false_ne_true] at h1 ⊢; exact r' H0 M0 M H1 σ env Q (g.mono e1) h1
theorem vt_not (h : VT X W a τ) : VT X W (.UnaryOp .Not a pos) (notT τ) := by
  obtain ⟨t, p, r⟩ := h
  refine ⟨_, pt_not p, fun H0 M0 M H σ env Q g h => ?_⟩
  exact r H0 M0 M H σ env _ g (PostT.tst h fun k H1 e1 h1 => h1 H1 (Ext.refl _))
def andE (φa φb : Env → Res D) (env : Env) : Res D := (φa env).bind fun d => match d with
  | .bl true => φb env
  | .bl false => .ok (.bl false)
  | _ => .bad
def orE (φa φb : Env → Res D) (env : Env) : Res D := (φa env).bind fun d => match d with
  | .bl true => .ok (.bl true)
  | .bl false => φb env
  | _ => .bad
def notE (φ : Env → Res D) (env : Env) : Res D := (φ env).bind notD
theorem ve_one {op} (h : VE X W fl a φ) : VE X W fl (.BoolOp op [a] pos) φ := by
  obtain ⟨t, p, r⟩ := h
  exact ⟨t, pe_one p, r⟩
theorem ve_and (ha : VE X W fla a φa) (hb : VE X W fl (.BoolOp .And (b :: rest) pos) φb) : VE X W fl (.BoolOp .And (a :: b :: rest) pos) (andE φa φb) := by
  obtain ⟨t, p, r⟩ := ha
  obtain ⟨t', p', r'⟩ := hb
  refine ⟨_, pe_and p p', fun H0 M0 M H σ env Q g h => ?_⟩
  refine r H0 M0 M H σ env _ g (PostE.seq h fun d v H1 e1 r1 h1 => ?_)
  cases d with
  | bl k =>
    cases r1
    refine ⟨k, rfl, ?_⟩
    cases k with
    | true => rw [if_pos rfl]; exact r' H0 M0 M H1 σ env Q (g.mono e1) h1
    | false => rw [if_neg Bool.false_ne_true]; exact h1 _ H1 (Ext.refl _) (.bl false)
  | _ => exact h1.elim
theorem ve_not (h : VE X W fla a φ) : VE X W fl (.UnaryOp .Not a pos) (notE φ) := by
  obtain ⟨t, p, r⟩ := h
  refine ⟨_, pe_not p, fun H0 M0 M H σ env Q g h => ?_⟩
  refine r H0 M0 M H σ env _ g (PostE.seq h fun d v H1 e1 r1 h1 => ?_)
  cases d with
  | bl k => cases r1; exact ⟨k, rfl, h1 _ H1 (Ext.refl _) (.bl _)⟩
  | _ => exact h1.elim
def ifE (τ : Env → Res Bool) (φa φb : Env → Res D) (env : Env) : Res D := (τ env).bind fun b => if b = true then φa env else φb env
end
end VL

set_option maxRecDepth 100000
set_option maxHeartbeats 2000000
namespace VL
open PySem L2

theorem eqK_key {k : D} {key : Key} (h : keyOf k = some key) (a : Key) : eqK (keyD a) k = decide (a = key) := by
  cases k <;> first | (cases h; done) | skip
  case int j =>
    cases h
    cases a with
    | inl i => show (i == j) = _; rw [← key_ll i j]
    | inr x => exact (decide_eq_false (fun q => by cases q)).symm
  case str s =>
    cases h
    cases a with
    | inl i => exact (decide_eq_false (fun q => by cases q)).symm
    | inr x =>
      show (x == s) = _
      rw [key_rr]
      by_cases e : x = s
      · subst e; simp
      · rw [decide_eq_false e]; simpa using e
theorem eqKs_keys : ∀ {ds : List D} {ks : List Key}, keysOf ds = some ks → ∀ as : List Key, eqKs (as.map keyD) ds = decide (as = ks)
  | [], _, h, as => by
    cases h
    cases as with
    | nil => rfl
    | cons a r => exact (decide_eq_false (fun q => by cases q)).symm
  | d :: ds, _, h, as => by
    unfold keysOf at h
    cases h1 : keyOf d with
    | none => rw [h1] at h; cases h
    | some k =>
      cases h2 : keysOf ds with
      | none => rw [h1, h2] at h; cases h
      | some ks =>
        rw [h1, h2] at h
        cases h
        cases as with
        | nil => exact (decide_eq_false (fun q => by cases q)).symm
        | cons a r =>
          show (eqK (keyD a) d && eqKs (r.map keyD) ds) = _
          rw [eqK_key h1, eqKs_keys h2]
          by_cases e1 : a = k
          · by_cases e2 : r = ks
            · subst e1; subst e2; simp
            · rw [decide_eq_true e1, decide_eq_false e2, decide_eq_false (fun q => e2 (List.cons.inj q).2)]; rfl
          · rw [decide_eq_false e1, decide_eq_false (fun q => e1 (List.cons.inj q).1)]; rfl
theorem look_of {κ : Type} [DecidableEq κ] {mg : Gm} {G : Vw} {f : κ → D} {k : D} {key : κ} (hk : ∀ a, eqK (f a) k = decide (a = key)) : ∀ {es : List (D × D)} {kvs : List (κ × V)}, es.map (·.1) = kvs.map (fun p => f p.1) → RpL mg G (es.map (·.2)) (kvs.map (·.2)) →
    match lookD es k with
    | some d => ∃ v, valV kvs key = some v ∧ Rp mg G d v
    | none => valV kvs key = none
  | [], [], _, _ => rfl
  | [], _ :: _, e, _ => by cases e
  | _ :: _, [], e, _ => by cases e
  | p :: es, q :: kvs, e, r => by
    rw [List.map_cons, List.map_cons] at e
    obtain ⟨e1, e2⟩ := List.cons.inj e
    have r' : RpL mg G (p.2 :: es.map (·.2)) (q.2 :: kvs.map (·.2)) := r
    cases r' with
    | cons r1 r2 =>
      have ih := look_of hk e2 r2
      by_cases c : q.1 = key
      · have h1 : lookD (p :: es) k = some p.2 := by
          unfold lookD
          rw [List.find?_cons_of_pos (by show eqK p.1 k = true; rw [e1, hk, decide_eq_true c])]
          rfl
        rw [h1]
        exact ⟨q.2, valV_pos c, r1⟩
      · have h1 : lookD (p :: es) k = lookD es k := by
          unfold lookD
          rw [List.find?_cons_of_neg (by show ¬ eqK p.1 k = true; rw [e1, hk, decide_eq_false c]; exact Bool.false_ne_true)]
        rw [h1, valV_neg c]
        exact ih
def keyFit (t : Nat) (k : D) : Bool := match t, k with
  | 0, k => (keyOf k).isSome
  | 1, .tup ds => (keysOf ds).isSome
  | _, _ => false
theorem rp_key {mg : Gm} {G : Vw} {k : D} {key : Key} {v : V} (r : Rp mg G k v) (h : keyOf k = some key) : v = kV key := by
  cases r <;> first | (cases h; done) | skip
  all_goals (cases h; rfl)
theorem rp_keys {mg : Gm} {G : Vw} : ∀ {ds : List D} {ks : List Key} {xs : List V}, RpL mg G ds xs → keysOf ds = some ks → xs = ks.map kV
  | [], _, _, .nil, h => by cases h; rfl
  | d :: ds, _, _, .cons r t, h => by
    unfold keysOf at h
    cases h1 : keyOf d with
    | none => rw [h1] at h; cases h
    | some k =>
      cases h2 : keysOf ds with
      | none => rw [h1, h2] at h; cases h
      | some ks =>
        rw [h1, h2] at h
        cases h
        rw [rp_key r h1, rp_keys t h2]
        rfl
def Got (mg : Gm) (G : Vw) (H : Hp) (a : Addr) (y : V) : Option D → Prop
  | some d => ∃ v, DGet H a y (some v) ∧ Rp mg G d v
  | none => DGet H a y none
theorem gotK {mg : Gm} {H : Hp} {G : Vw} {es : List (D × D)} {kvs : List (Key × V)} {a : Addr} {k : D} {y : V} (h : Rd H a (.dK kvs)) (e : es.map (·.1) = kvs.map (fun p => keyD p.1)) (r : RpL mg G (es.map (·.2)) (kvs.map (·.2)))
    (rk : Rp mg (vw H) k y) (hf : keyFit 0 k = true) : Got mg G H a y (lookD es k) := by
  cases q : keyOf k with
  | none => rw [show keyFit 0 k = (keyOf k).isSome by cases k <;> rfl, q] at hf; cases hf
  | some key =>
    have hl := look_of (eqK_key q) e r
    rw [rp_key rk q]
    cases z : lookD es k with
    | none => rw [z] at hl; exact .inl ⟨_, key, h, rfl, hl.symm⟩
    | some d =>
      rw [z] at hl
      obtain ⟨v, e1, e2⟩ := hl
      exact ⟨v, .inl ⟨_, key, h, rfl, e1.symm⟩, e2⟩
theorem gotT {mg : Gm} {H : Hp} {G : Vw} {es : List (D × D)} {kvs : List (List Key × V)} {a : Addr} {k : D} {y : V} (h : Rd H a (.dT kvs)) (e : es.map (·.1) = kvs.map (fun p => .tup (p.1.map keyD))) (r : RpL mg G (es.map (·.2)) (kvs.map (·.2)))
    (rk : Rp mg (vw H) k y) (hf : keyFit 1 k = true) : Got mg G H a y (lookD es k) := by
  cases k with
  | tup ds =>
    cases q : keysOf ds with
    | none =>
      have : keyFit 1 (.tup ds) = (keysOf ds).isSome := rfl
      rw [this, q] at hf; cases hf
    | some ks =>
      have hk : ∀ b : List Key, eqK (.tup (b.map keyD)) (.tup ds) = decide (b = ks) := fun b => by
        have : eqK (.tup (b.map keyD)) (.tup ds) = eqKs (b.map keyD) ds := by rw [eqK]
        rw [this]; exact eqKs_keys q b
      have hl := look_of hk e r
      cases rk with
      | tup hb rb =>
        have ex := rp_keys rb q
        subst ex
        cases z : lookD es (.tup ds) with
        | none => rw [z] at hl; exact .inr ⟨_, ks, _, h, rfl, vw_tup hb, hl.symm⟩
        | some d =>
          rw [z] at hl
          obtain ⟨v, e1, e2⟩ := hl
          exact ⟨v, .inr ⟨_, ks, _, h, rfl, vw_tup hb, e1.symm⟩, e2⟩
  | _ => cases hf
theorem dget_of {mg : Gm} {H : Hp} {G : Vw} {t : Nat} {es : List (D × D)} {a : Addr} {k : D} {y : V} (le : VEx G (vw H)) (rd : Rp mg G (.dic t es) (.ref a)) (rk : Rp mg (vw H) k y) (hf : keyFit t k = true) : Got mg G H a y (lookD es k) := by
  cases rd with
  | dicK h e r => exact gotK (vw_dK (le _ _ h)) e r rk hf
  | dicT h e r => exact gotT (vw_dT (le _ _ h)) e r rk hf
  | dicN h n e r => cases k <;> cases hf
theorem dget_ow {mg : Gm} {H : Hp} {M : Addr → Bool} {es : List (D × D)} {a : Addr} {k : D} {y : V} (rk : Rp mg (vw H) k y) : ∀ {t : Nat}, OwOk mg M H a (.dic t es) → keyFit t k = true → Got mg (Sh M (vw H)) H a y (lookD es k)
  | 0, ⟨kvs, h, e, r⟩, hf => gotK (.of h) e r rk hf
  | 1, ⟨kvs, h, e, r⟩, hf => gotT (.of h) e r rk hf
  | 2, _, hf => by cases k <;> cases hf
  | _ + 3, h, _ => h.elim

def seqGet (ds : List D) (i : Int) : Res D := match atI ds i with
  | some d => .ok d
  | none => .bad
def strGet (z : Str) (i : Int) : Res D := if z.length ≤ sizeLine then (match atI z.cps.toList i with | some c => .ok (.str ⟨#[c]⟩) | none => .bad) else .bad
def getD : D → D → Res D
  | .lst ds, .int i => seqGet ds i
  | .scr ns, .int i => seqGet (ns.map .int) i
  | .tup ds, .int i => seqGet ds i
  | .str z, .int i => strGet z i
  | .dic t es, k => if keyFit t k = true then (match lookD es k with | some d => .ok d | none => .bad) else .bad
  | _, _ => .bad
theorem atI_rp {mg : Gm} {G : Vw} {ds : List D} {vs : List V} {i : Int} {d : D} (r : RpL mg G ds vs) (h : atI ds i = some d) : ∃ v, atI vs i = some v ∧ Rp mg G d v := by
  unfold atI at h ⊢
  rw [r.length] at h
  cases q : ixN vs.length i with
  | none => rw [q] at h; cases h
  | some j => rw [q] at h; exact r.get h
theorem rpl_ints {mg : Gm} {G : Vw} : ∀ ns : List Int, RpL mg G (ns.map D.int) (ns.map V.int)
  | [] => .nil
  | n :: ns => .cons (.int n) (rpl_ints ns)
theorem pe_or {X : Cx} {e : Expr} {t u : TE} (h1 : PE X e t) (h2 : PE X e u) : PE X e (fun σ H Q => t σ H Q ∨ u σ H Q) :=
  ⟨fun pins s σ H Q I h => h.elim (h1.run pins s σ H Q I) (h2.run pins s σ H Q I)⟩
def isDic : D → Bool
  | .dic _ _ => true
  | _ => false
section
variable {X : Cx} {W : WX} {fl fla flb flc : Bool} {e a b c : Expr} {es : List Expr} {pos : Pos} {φ φa φb φc : Env → Res D}
theorem seq_read {M : Addr → Bool} {H : Hp} {σ : L2.St} {Q : VK} {d k : D} {v w : V} (nd : isDic d = false) (rd : Rp (gm X) (vis fl M (vw H)) d v) (rk : Rp (gm X) (vis flb M (vw H)) k w) (h : PostE X W fl M σ H Q (getD d k)) : rIx X.K v w H Q := by
  cases rd <;> first | (cases nd; done) | skip
  all_goals (cases rk <;> first | exact h.elim | skip)
  case str.int z i =>
    obtain ⟨hs, h⟩ := PostE.ite h
    cases q : atI z.cps.toList i with
    | none => rw [q] at h; exact h.elim
    | some c => rw [q] at h; exact .inr (.inr ⟨z, i, c, rfl, rfl, hs, q, h _ H (Ext.refl H) (.str _)⟩)
  case scr.int a ns ha i =>
    have h' : PostE X W fl M σ H Q (seqGet (ns.map .int) i) := h
    unfold seqGet at h'
    cases q : atI (ns.map D.int) i with
    | none => rw [q] at h'; exact h'.elim
    | some d =>
      rw [q] at h'
      obtain ⟨v, q1, r1⟩ := atI_rp (mg := gm X) (G := vis fl M (vw H)) (rpl_ints ns) q
      exact .inl ⟨a, _, i, v, rfl, rfl, (ha.mono (vis_le fl M _)).sq, q1, h' _ H (Ext.refl H) r1⟩
  case tup.int a xs ds ha ra i =>
    have h' : PostE X W fl M σ H Q (seqGet ds i) := h
    unfold seqGet at h'
    cases q : atI ds i with
    | none => rw [q] at h'; exact h'.elim
    | some d =>
      rw [q] at h'
      obtain ⟨v, q1, r1⟩ := atI_rp ra q
      exact .inr (.inl ⟨a, xs, i, v, rfl, rfl, .inl (.inl (vw_tup (vis_get ha))), q1, h' _ H (Ext.refl H) r1⟩)
  case lst.int a xs ds ha ra i =>
    have h' : PostE X W fl M σ H Q (seqGet ds i) := h
    unfold seqGet at h'
    cases q : atI ds i with
    | none => rw [q] at h'; exact h'.elim
    | some d =>
      rw [q] at h'
      obtain ⟨v, q1, r1⟩ := atI_rp ra q
      exact .inl ⟨a, xs, i, v, rfl, rfl, .inl (vw_lst (vis_get ha)), q1, h' _ H (Ext.refl H) r1⟩
theorem dic_read {M : Addr → Bool} {H : Hp} {σ : L2.St} {Q : VK} {t : Nat} {es : List (D × D)} {k : D} {v w : V} (rd : Rp (gm X) (vis fl M (vw H)) (.dic t es) v) (rk : Rp (gm X) (vis flb M (vw H)) k w) (h : PostE X W fl M σ H Q (getD (.dic t es) k)) :
    ∃ a x, v = .ref a ∧ DGet H a w (some x) ∧ Q x H := by
  have e1 : getD (.dic t es) k = if keyFit t k = true then (match lookD es k with | some d => .ok d | none => .bad) else .bad := by cases k <;> rfl
  rw [e1] at h
  obtain ⟨hs, h⟩ := PostE.ite h
  have hr : ∃ a, v = .ref a := by cases rd <;> exact ⟨_, rfl⟩
  obtain ⟨a, rfl⟩ := hr
  have hl := dget_of (vis_le fl M (vw H)) rd (rk.mono (vis_le flb M _)) hs
  cases q : lookD es k with
  | none => rw [q] at h; exact h.elim
  | some d =>
    rw [q] at h hl
    obtain ⟨x, g, r⟩ := hl
    exact ⟨a, x, rfl, g, h x H (Ext.refl H) r⟩
theorem ve_ix (hu : X.A.units + 1 < cLine) (ha : VE X W fl a φa) (hb : VE X W flb b φb) (hs : PlainIx b := by exact fun _ _ => rfl) (hs2 : NoSl b := by exact fun _ _ => rfl) : VE X W fl (.Subscript a b pos) (op2 getD φa φb) := by
  obtain ⟨ta, pa, ra⟩ := ha
  obtain ⟨tb, pb, rb⟩ := hb
  refine ⟨_, pe_or (pe_ix ix_seq pa pb hs) (pe_dget hu pa pb hs2), fun H0 M0 M H σ env Q g h => ?_⟩
  by_cases hd : ∃ t es, φa env = .ok (.dic t es)
  · obtain ⟨t, es, hd⟩ := hd
    refine .inr ?_
    have h' : PostE X W fl M σ H Q ((Res.ok (.dic t es)).bind fun d => (φb env).bind fun e => getD d e) := by
      have : op2 getD φa φb env = (φa env).bind fun d => (φb env).bind fun e => getD d e := rfl
      rw [this, hd] at h; exact h
    refine ra H0 M0 M H σ env _ g ?_
    rw [hd]
    intro v H1 e1 r1
    refine rb H0 M0 M H1 σ env _ (g.mono e1) (PostE.seq (PostE.mono h' e1) fun d2 v2 H2 e2 r2 h2 => ?_)
    exact dic_read (r1.mono (vis_mono e2.v)) r2 h2
  · refine .inl ?_
    have h0 : PostE X W fl M σ H Q ((φa env).bind fun d => (φb env).bind fun e => getD d e) := h
    refine ra H0 M0 M H σ env _ g ?_
    cases q : φa env with
    | ok d =>
      rw [q] at h0
      intro v H1 e1 r1
      refine rb H0 M0 M H1 σ env _ (g.mono e1) (PostE.seq (PostE.mono h0 e1) fun d2 v2 H2 e2 r2 h2 => ?_)
      refine seq_read ?_ (r1.mono (vis_mono e2.v)) r2 h2
      cases d <;> first | rfl | exact absurd ⟨_, _, q⟩ hd
    | exc c fs => rw [q] at h0; exact h0
    | bad => rw [q] at h0; exact h0
def cutD (xs : List D) (lo hi : Option Int) : List D := (xs.drop (HT.sIx xs.length 0 lo)).take (HT.sIx xs.length xs.length hi - HT.sIx xs.length 0 lo)
def sliceD : D → Option Int → Option Int → Res D
  | .str z, lo, hi => if z.length ≤ sizeLine then .ok (.str (cutS z lo hi)) else .bad
  | .tup xs, lo, hi => .ok (.tup (cutD xs lo hi))
  | .lst xs, lo, hi => .ok (.lst (cutD xs lo hi))
  | _, _, _ => .bad
def VO (X : Cx) (W : WX) (e : Option Expr) (φ : Env → Res (Option Int)) : Prop :=
  ∃ t : TO, PO X e t ∧ ∀ (H0 : Hp) (M0 M : Addr → Bool) (H : Hp) (σ : L2.St) (env : Env) (Q : Option Int → Hp → Prop), Good (gm X) H0 M0 M H σ env → PostT X W M σ H Q (φ env) → t σ H Q
def noO (_ : Env) : Res (Option Int) := .ok none
def toI : D → Res (Option Int)
  | .int i => .ok (some i)
  | _ => .bad
def someO (φ : Env → Res D) (env : Env) : Res (Option Int) := (φ env).bind toI
theorem vo_none : VO X W none noO := ⟨_, po_none, fun H0 M0 M H σ env Q g h => h H (Ext.refl H)⟩
theorem vo_some (h : VE X W fl e φ) : VO X W (some e) (someO φ) := by
  obtain ⟨t, p, r⟩ := h
  refine ⟨_, po_some p, fun H0 M0 M H σ env Q g h => ?_⟩
  refine r H0 M0 M H σ env _ g (PostT.seq h fun d v H1 e1 r1 h1 => ?_)
  cases d with
  | int i => cases r1; exact ⟨i, rfl, h1 H1 (Ext.refl _)⟩
  | _ => exact h1.elim
def slE (φ : Env → Res D) (ml mh : Env → Res (Option Int)) (env : Env) : Res D := (φ env).bind fun d => (ml env).bind fun l => (mh env).bind fun u => sliceD d l u
theorem cutD_rp {mg : Gm} {G : Vw} {ds : List D} {vs : List V} (r : RpL mg G ds vs) (lo hi : Option Int) : RpL mg G (cutD ds lo hi) (cutV vs lo hi) := by
  unfold cutD cutV
  rw [r.length]
  exact (r.drop _).take _
theorem cutV_whole {xs : List V} {lo hi : Option Int} (h : HT.sIx xs.length 0 lo = 0 ∧ HT.sIx xs.length xs.length hi = xs.length) : cutV xs lo hi = xs := by
  unfold cutV
  rw [h.1, h.2]
  simp
theorem ve_sl {lo hi : Option Expr} {p2 : Pos} {ml mh : Env → Res (Option Int)} (he : VE X W fl e φ) (hl : VO X W lo ml) (hh : VO X W hi mh) : VE X W fl (.Subscript e (.Slice lo hi none p2) pos) (slE φ ml mh) := by
  obtain ⟨t, p, r⟩ := he
  obtain ⟨tl, pl, rl⟩ := hl
  obtain ⟨th, ph, rh⟩ := hh
  refine ⟨_, pe_slice (sl_str.or (sl_tupA.or sl_list)) p pl ph, fun H0 M0 M H σ env Q g h => ?_⟩
  refine r H0 M0 M H σ env _ g (PostE.seq h fun d v H1 e1 r1 h1 => ?_)
  refine rl H0 M0 M H1 σ env _ (g.mono e1) (PostE.tst h1 fun l H2 e2 h2 => ?_)
  refine rh H0 M0 M H2 σ env _ ((g.mono e1).mono e2) (PostE.tst h2 fun u H3 e3 h3 => ?_)
  have m := ((g.ok.mono e1).mono e2).mono e3
  have r3 := r1.mono (vis_mono (e2.trans e3).v)
  cases r3 <;> first | exact h3.elim | skip
  case str z =>
    obtain ⟨hs, h3⟩ := PostE.ite h3
    exact .inl ⟨z, rfl, hs, h3 _ H3 (Ext.refl _) (.str _)⟩
  case tup a xs ds ha ra =>
    refine .inr (.inl ⟨a, xs, rfl, .inl (.inl (vw_tup (vis_get ha))), fun hw => ?_, fun _ q hq => ?_⟩)
    · refine h3 _ H3 (Ext.refl _) (.tup ha ?_)
      have := cutD_rp ra l u
      rw [cutV_whole hw] at this
      exact this
    · exact h3 _ _ (Ext.new hq) (rp_newT m hq (cutD_rp ra l u))
  case lst a xs ds ha ra =>
    exact .inr (.inr ⟨a, xs, rfl, .inl (vw_lst (vis_get ha)), fun q hq => h3 _ _ (Ext.new hq) (rp_newL m hq (cutD_rp ra l u))⟩)
theorem ve_ixo (i : Nat) {x : Str} {p : Pos} (hu : X.A.units + 1 < cLine) (hb : VE X W flb b φb) (hs : PlainIx b := by exact fun _ _ => rfl) (hs2 : NoSl b := by exact fun _ _ => rfl)
    (hN : X.N[i]? = some x := by rfl) (hv : Vis X.env.scope x := by first | exact Or.inl rfl | exact Or.inr (Or.inl rfl) | exact Or.inr (Or.inr rfl)) (hd : (x == ("__debug__" : Str)) = false := by decide)
    (hcd : (x == ("__classdict__" : Str)) = false := by decide) : VE X W fl (.Subscript (.Name x p) b pos) (op2 getD (getB i) φb) := by
  obtain ⟨tb, pb, rb⟩ := hb
  have pa : PE X (.Name x p) (tVar i) := pe_var hN hv hd hcd
  refine ⟨_, pe_or (pe_ix ix_seq pa pb hs) (pe_dget hu pa pb hs2), fun H0 M0 M H σ env Q g h => ?_⟩
  have h0 : PostE X W fl M σ H Q ((getB i env).bind fun d => (φb env).bind fun e => getD d e) := h
  unfold getB at h0
  cases q : env[i]? with
  | none => rw [q] at h0; exact h0.elim
  | some s =>
    rw [q] at h0
    cases s with
    | no => exact h0.elim
    | sh d =>
      obtain ⟨v, e, r⟩ := g.sl i _ q
      by_cases hd : isDic d = true
      · cases d <;> first | (cases hd; done) | skip
        refine .inr ⟨v, e, ?_⟩
        exact rb H0 M0 M H σ env _ g (PostE.seq h0 fun d2 v2 H2 e2 r2 h2 => dic_read ((r.mono (Sh_vis fl M _)).mono (vis_mono e2.v)) r2 h2)
      · refine .inl ⟨v, e, ?_⟩
        exact rb H0 M0 M H σ env _ g (PostE.seq h0 fun d2 v2 H2 e2 r2 h2 => seq_read (by simpa using hd) ((r.mono (Sh_vis fl M _)).mono (vis_mono e2.v)) r2 h2)
    | ow d =>
      obtain ⟨pa', e, mm, m0, r⟩ := g.sl i _ q
      cases d with
      | lst ds =>
        obtain ⟨xs, hx, rx⟩ := r
        refine .inl ⟨_, e, ?_⟩
        refine rb H0 M0 M H σ env _ g (PostE.seq h0 fun d2 v2 H2 e2 r2 h2 => ?_)
        cases r2 <;> first | exact h2.elim | skip
        rename_i j
        have h' : PostE X W fl M σ H2 Q (seqGet ds j) := h2
        unfold seqGet at h'
        cases qj : atI ds j with
        | none => rw [qj] at h'; exact h'.elim
        | some d =>
          rw [qj] at h'
          obtain ⟨v, q1, r1⟩ := atI_rp (rx.mono (Sh_mono e2.v)) qj
          exact .inl ⟨pa', xs, j, v, rfl, rfl, SqL.of (e2 _ _ hx), q1, h' _ H2 (Ext.refl _) (r1.mono (Sh_vis fl M _))⟩
      | dic t es =>
        refine .inr ⟨_, e, ?_⟩
        refine rb H0 M0 M H σ env _ g (PostE.seq h0 fun d2 v2 H2 e2 r2 h2 => ?_)
        have e1 : getD (.dic t es) d2 = if keyFit t d2 = true then (match lookD es d2 with | some d => .ok d | none => .bad) else .bad := by cases d2 <;> rfl
        rw [e1] at h2
        obtain ⟨hs, h2⟩ := PostE.ite h2
        have ow2 := OwOk.mono e2 r
        have hl := dget_ow (r2.mono (vis_le flb M _)) ow2 hs
        cases z : lookD es d2 with
        | none => rw [z] at h2; exact h2.elim
        | some d =>
          rw [z] at h2 hl
          obtain ⟨v, g1, r1⟩ := hl
          exact ⟨pa', v, rfl, g1, h2 v H2 (Ext.refl _) (r1.mono (Sh_vis fl M _))⟩
      | ins c gs =>
        refine .inl ⟨_, e, ?_⟩
        refine rb H0 M0 M H σ env _ g (PostE.seq h0 fun d2 v2 H2 e2 r2 h2 => ?_)
        cases d2 <;> exact h2.elim
      | sel x c gs =>
        refine .inl ⟨_, e, ?_⟩
        refine rb H0 M0 M H σ env _ g (PostE.seq h0 fun d2 v2 H2 e2 r2 h2 => ?_)
        cases d2 <;> exact h2.elim
      | _ => exact r.elim
end
end VL

set_option maxRecDepth 100000
set_option maxHeartbeats 2000000
namespace VL
open PySem L2

def nilA (_ : Env) : Res (List D) := .ok []
def consA (φ : Env → Res D) (φs : Env → Res (List D)) (env : Env) : Res (List D) := (φ env).bind fun d => (φs env).bind fun ds => .ok (d :: ds)
def tupD (ds : List D) : Res D := if ds.length ≤ sizeLine then .ok (.tup ds) else .bad
def lstD (ds : List D) : Res D := if ds.length ≤ sizeLine then .ok (.lst ds) else .bad
def aE (f : List D → Res D) (φs : Env → Res (List D)) (env : Env) : Res D := (φs env).bind f
section
variable {X : Cx} {W : WX} {fl fla flb flc : Bool} {e a b c : Expr} {es : List Expr} {pos : Pos} {φ φa φb φc : Env → Res D} {φs : Env → Res (List D)}
theorem va_nil : VA X W fl [] nilA := ⟨_, pa_nil, fun H0 M0 M H σ env Q g h => h [] H (Ext.refl H) .nil⟩
theorem va_cons (ha : VE X W fl e φ) (hr : VA X W fl es φs) (hs : starEach (e :: es) X.env = (false, eval e X.env) :: starEach es X.env := by rfl) : VA X W fl (e :: es) (consA φ φs) := by
  obtain ⟨t, p, r⟩ := ha
  obtain ⟨t', p', r'⟩ := hr
  refine ⟨_, pa_cons p p' hs, fun H0 M0 M H σ env Q g h => ?_⟩
  refine r H0 M0 M H σ env _ g (PostA.head h fun d v H1 e1 r1 h1 => ?_)
  refine r' H0 M0 M H1 σ env _ (g.mono e1) (PostA.tail h1 fun ds vs H2 e2 r2 h2 => ?_)
  exact h2 _ H2 (Ext.refl _) (.cons (r1.mono (vis_mono e2.v)) r2)
theorem ve_tup {k} (h : VA X W fl es φs) : VE X W fl (.Tuple es k pos) (aE tupD φs) := by
  obtain ⟨t, p, r⟩ := h
  refine ⟨_, pe_tup p, fun H0 M0 M H σ env Q g h => ?_⟩
  refine r H0 M0 M H σ env _ g (PostE.args h fun ds vs H1 e1 r1 h1 => ?_)
  obtain ⟨hs, h1⟩ := PostE.ite h1
  rw [r1.length] at hs
  exact ⟨hs, fun q hq => h1 _ _ (Ext.new hq) (rp_newT (g.ok.mono e1) hq r1)⟩
theorem ve_lst (h : VA X W fl es φs) : VE X W fl (.List es pos) (aE lstD φs) := by
  obtain ⟨t, p, r⟩ := h
  refine ⟨_, pe_lst p, fun H0 M0 M H σ env Q g h => ?_⟩
  refine r H0 M0 M H σ env _ g (PostE.args h fun ds vs H1 e1 r1 h1 => ?_)
  obtain ⟨hs, h1⟩ := PostE.ite h1
  rw [r1.length] at hs
  exact ⟨hs, fun q hq => h1 _ _ (Ext.new hq) (rp_newL (g.ok.mono e1) hq r1)⟩

def CallF (X : Cx) (W : WX) (fla fl : Bool) (r : List V → Hp → VK → Prop) (f : List D → Res D) : Prop :=
  ∀ (M : Addr → Bool) (H : Hp) (σ : L2.St) (Q : VK) (ds : List D) (vs : List V), MOk M H → RpL (gm X) (vis fla M (vw H)) ds vs → PostE X W fl M σ H Q (f ds) → r vs H Q
theorem ve_bi {x : Str} {id : String} {r : List V → Hp → VK → Prop} {f : List D → Res D} {p : Pos} (hc : CallR X (.builtin id) r) (hf : CallF X W fla fl r f) (hm : X.mg x = none) (hv : bootBuiltins x = some (.builtin id)) (ha : VA X W fla (e :: es) φs)
    (hg : Gl X x := by rfl) (hn : x ≠ "__name__" := by decide) (hdb : (x == ("__debug__" : Str)) = false := by decide) (he : starEach (e :: es) X.env = (false, eval e X.env) :: starEach es X.env := by rfl) (hpl : (backTo pos (starEach es X.env)).any (·.1) = false := by rfl) :
    VE X W fl (.Call (.Name x p) (e :: es) [] pos) (aE f φs) := by
  obtain ⟨t, pt, r'⟩ := ha
  refine ⟨_, pe_callB hc hg hm hv pt hn hdb he hpl, fun H0 M0 M H σ env Q g h => ?_⟩
  exact r' H0 M0 M H σ env _ g (PostE.args h fun ds vs H1 e1 r1 h1 => hf M H1 σ Q ds vs (g.ok.mono e1) r1 h1)
theorem ve_ty {x : Str} {T : String} {r : List V → Hp → VK → Prop} {f : List D → Res D} {p : Pos} (hc : CallR X (.type T) r) (hf : CallF X W fla fl r f) (hm : X.mg x = none) (hv : bootBuiltins x = some (.type T)) (ha : VA X W fla (e :: es) φs)
    (hg : Gl X x := by rfl) (hn : x ≠ "__name__" := by decide) (hdb : (x == ("__debug__" : Str)) = false := by decide) (he : starEach (e :: es) X.env = (false, eval e X.env) :: starEach es X.env := by rfl) (hpl : (backTo pos (starEach es X.env)).any (·.1) = false := by rfl) :
    VE X W fl (.Call (.Name x p) (e :: es) [] pos) (aE f φs) := by
  obtain ⟨t, pt, r'⟩ := ha
  refine ⟨_, pe_callTy hc hg hm hv pt hn hdb he hpl, fun H0 M0 M H σ env Q g h => ?_⟩
  exact r' H0 M0 M H σ env _ g (PostE.args h fun ds vs H1 e1 r1 h1 => hf M H1 σ Q ds vs (g.ok.mono e1) r1 h1)
def lenF : List D → Res D
  | [.str s] => if s.length ≤ sizeLine then .ok (.int s.length) else .bad
  | [.lst ds] => .ok (.int ds.length)
  | [.scr ns] => .ok (.int ns.length)
  | [.tup ds] => .ok (.int ds.length)
  | _ => .bad
theorem cf_len : CallF X W fla fl (fun xs H Q => ∃ x n, xs = [x] ∧ LenV X.K x H n ∧ Q (.int n) H) lenF := by
  intro M H σ Q ds vs m r h
  cases r with
  | nil => exact h.elim
  | cons r t =>
    cases t with
    | cons _ _ => cases r <;> exact h.elim
    | nil =>
      cases r <;> first | exact h.elim | skip
      case str s =>
        obtain ⟨hs, h⟩ := PostE.ite h
        exact ⟨_, s.length, rfl, ⟨hs, rfl⟩, h _ H (Ext.refl H) (.int _)⟩
      case scr a ns ha =>
        refine ⟨_, (ns.map V.int).length, rfl, .inl ⟨_, (ha.mono (vis_le fla M _)).sq, rfl⟩, ?_⟩
        have h' := h (.int ns.length) H (Ext.refl H) (.int _)
        rw [List.length_map]
        exact h'
      case tup a xs ds ha ra =>
        refine ⟨_, xs.length, rfl, .inr ⟨xs, .inl (.inl (vw_tup (vis_get ha))), rfl⟩, ?_⟩
        have h' := h (.int ds.length) H (Ext.refl H) (.int _)
        rw [ra.length] at h'
        exact h'
      case lst a xs ds ha ra =>
        refine ⟨_, xs.length, rfl, .inl ⟨xs, .inl (vw_lst (vis_get ha)), rfl⟩, ?_⟩
        have h' := h (.int ds.length) H (Ext.refl H) (.int _)
        rw [ra.length] at h'
        exact h'
def intF : List D → Res D
  | [.int i] => .ok (.int i)
  | [.bl b] => .ok (.int (if b = true then 1 else 0))
  | _ => .bad
theorem cf_int : CallF X W fla fl (fun xs H Q => (∃ i, xs = [.int i] ∧ Q (.int i) H) ∨ ∃ k, xs = [.bl k] ∧ Q (.int (if k then 1 else 0)) H) intF := by
  intro M H σ Q ds vs m r h
  cases r with
  | nil => exact h.elim
  | cons r t =>
    cases t with
    | cons _ _ => cases r <;> exact h.elim
    | nil =>
      cases r <;> first | exact h.elim | skip
      · exact .inr ⟨_, rfl, h _ H (Ext.refl H) (.int _)⟩
      · exact .inl ⟨_, rfl, h _ H (Ext.refl H) (.int _)⟩
def listF : List D → Res D
  | [.lst ds] => .ok (.lst ds)
  | [.tup ds] => .ok (.lst ds)
  | _ => .bad
def tupleF : List D → Res D
  | [.lst ds] => .ok (.tup ds)
  | [.tup ds] => .ok (.tup ds)
  | _ => .bad
theorem cf_tuple : CallF X W fl fl (fun xs H Q => ∃ p ys, xs = [.ref p] ∧ ((SqL X.K H p ys ∧ ∀ l, H l = none → Q (.ref l) (upd H l (.tup ys))) ∨ (SqT X.K H p ys ∧ Q (.ref p) H))) tupleF := by
  intro M H σ Q ds vs m r h
  cases r with
  | nil => exact h.elim
  | cons r t =>
    cases t with
    | cons _ _ => cases r <;> exact h.elim
    | nil =>
      cases r <;> first | exact h.elim | skip
      case tup a xs ds ha ra => exact ⟨a, xs, rfl, .inr ⟨.inl (.inl (vw_tup (vis_get ha))), h _ H (Ext.refl H) (.tup ha ra)⟩⟩
      case lst a xs ds ha ra => exact ⟨a, xs, rfl, .inl ⟨.inl (vw_lst (vis_get ha)), fun l hl => h _ _ (Ext.new hl) (rp_newT m hl ra)⟩⟩
def tyName : D → Option String
  | .non => some "NoneType"
  | .bl _ => some "bool"
  | .int _ => some "int"
  | .str _ => some "str"
  | .tup _ => some "tuple"
  | .lst _ => some "list"
  | .dic 0 _ => some "dict"
  | _ => none
def isT (T : String) (d : D) : Res D := match tyName d with
  | some S => (match kitB S T with | some b => .ok (.bl b) | none => .bad)
  | none => .bad
theorem ty_of {H : Hp} {d : D} {v : V} {S : String} (r : Rp (gm X) (vw H) d v) (h : tyName d = some S) : TyX X.K H v (.type S) := by
  cases r <;> first | (cases h; done) | skip
  case non => cases h; exact .base .non
  case bl b => cases h; exact .base (.bl b)
  case int b => cases h; exact .base (.int b)
  case str b => cases h; exact .base (.str b)
  case tup a xs ds ha ra => cases h; exact .base (.tup (vw_tup ha))
  case lst a xs ds ha ra =>
    cases h
    rcases vw_lst ha with q | ⟨o, q⟩
    · exact .base (.lst q)
    · exact .base (.frz q)
  case dicK a kvs es ha e ra =>
    cases h
    rcases vw_dK ha with q | ⟨o, q⟩
    · exact .base (.dK q)
    · exact .fDict q
def isTE (T : String) (φ : Env → Res D) (env : Env) : Res D := (φ env).bind (isT T)
theorem ve_isT {T : String} {x : Str} {xi p : Pos} (h : VE X W fla e φ) (hmi : X.mg "isinstance" = none) (hm : X.mg x = none) (hv : bootBuiltins x = some (.type T)) (hgi : Gl X "isinstance" := by rfl) (hg : Gl X x := by rfl)
    (hn : x ≠ "__name__" := by decide) (hd : (x == ("__debug__" : Str)) = false := by decide) (hs : starEach (e :: [.Name x p]) X.env = (false, eval e X.env) :: starEach [.Name x p] X.env := by rfl)
    (hs2 : starEach ((.Name x p) :: []) X.env = (false, eval (.Name x p) X.env) :: starEach [] X.env := by rfl) (hpl : (backTo pos (starEach [.Name x p] X.env)).any (·.1) = false := by rfl) :
    VE X W fl (.Call (.Name "isinstance" xi) [e, .Name x p] [] pos) (isTE T φ) := by
  obtain ⟨t, pt, r⟩ := h
  refine ⟨_, pe_callB call_isi hgi hmi (by decide +kernel) (pa_cons pt (pa_cons (pe_bltn (v := .ty T) hg hm hv rfl hn hd) pa_nil hs2) hs) (by decide) (by decide) hs hpl, fun H0 M0 M H σ env Q g h => ?_⟩
  refine r H0 M0 M H σ env _ g (PostE.seq h fun d v H1 e1 r1 h1 => ?_)
  unfold isT at h1
  cases q : tyName d with
  | none => rw [q] at h1; exact h1.elim
  | some S =>
    rw [q] at h1
    cases z : kitB S T with
    | none =>
      have h2 : PostE X W fl M σ H1 Q (match kitB S T with | some b => .ok (.bl b) | none => .bad) := h1
      rw [z] at h2; exact h2.elim
    | some b =>
      have h2 : PostE X W fl M σ H1 Q (match kitB S T with | some b => .ok (.bl b) | none => .bad) := h1
      rw [z] at h2
      exact ⟨v, .ty T, .type S, .type T, b, rfl, .ty T, ty_of (r1.mono (vis_le fla M _)) q, kit_ty z, h2 _ H1 (Ext.refl _) (.bl b)⟩
end

def PostF (mg : Gm) (M : Addr → Bool) (H : Hp) (Q : VK) (E : XK) : Res D → Prop
  | .ok d => ∀ v H', Ext H H' → Rp mg (Sh M (vw H')) d v → Q v H'
  | .exc c fs => ∀ cls dd H', Ext H H' → RpX mg (Sh M (vw H')) c fs cls dd → E cls dd H'
  | .bad => False
def spV (mg : Gm) (n : Nat) (F : List D → Res D) : Sp := fun vs H Q E => vs.length = n ∧ ∃ (M : Addr → Bool) (ds : List D), MOk M H ∧ RpL mg (Sh M (vw H)) ds vs ∧ PostF mg M H Q E (F ds)
def immuts (fs : List (Str × D)) : Bool := fs.all fun p => immut p.2
def guardX : Res D → Res D
  | .exc c fs => if immuts fs = true then .exc c fs else .bad
  | r => r
theorem rpl_imm {mg : Gm} {G G' : Vw} (e : ∀ a xs, G a = some (.tup xs) → G' a = some (.tup xs)) : ∀ {fs : List (Str × D)} {vs : List V}, RpL mg G (fs.map (·.2)) vs → immuts fs = true → RpL mg G' (fs.map (·.2)) vs
  | [], _, .nil, _ => .nil
  | p :: fs, _, .cons r t, h => by
    obtain ⟨h1, h2⟩ := Bool.and_eq_true_iff.mp (show (immut p.2 && immuts fs) = true from h)
    exact .cons (r.imm e h1) (rpl_imm e t h2)
section
variable {X : Cx} {W : WX} {fl fla flb flc : Bool} {e a b c : Expr} {es : List Expr} {pos : Pos} {φ φa φb φc : Env → Res D} {φs : Env → Res (List D)}
variable {k n : Nat} {f : Addr} {fd : FuncData} {ps : List Str} {F : List D → Res D} {x : Str} {p : Pos}
theorem ve_call (tk : L2N.Takes X W) (hF : FnOk X.prog X.w X.K X.mg X.base (L2N.CX X.prog X.w) k f fd ps (spV (gm X) n F)) (hr : Room k X.A) (hm : X.mg x = some (.ref f)) (hk : PySem.W.keepIn X.K (.ref f) = true) (hb : Binds X.K fd ps [])
    (ha : VA X W true (e :: es) φs) (hn : (e :: es).length = n) (hl : ∀ env ds, φs env = .ok ds → ds.length = n) (hg : Gl X x := by rfl) (hdb : (x == ("__debug__" : Str)) = false := by decide)
    (he : starEach (e :: es) X.env = (false, eval e X.env) :: starEach es X.env := by rfl) (hpl : (backTo pos (starEach es X.env)).any (·.1) = false := by rfl) : VE X W fl (.Call (.Name x p) (e :: es) [] pos) (aE F φs) := by
  obtain ⟨t, pt, r⟩ := ha
  refine ⟨_, pe_callS hF hr hg hm hk hb (fun σ => L2N.passAt tk σ) pt hdb he hpl, fun H0 M0 M H σ env Q g h => ?_⟩
  have h0 : PostE X W fl M σ H Q ((φs env).bind F) := h
  refine r H0 M0 M H σ env _ g ?_
  cases q : φs env with
  | ok ds =>
    rw [q] at h0
    intro vs H1 e1 r1
    refine ⟨(r1.length.symm).trans (hl env ds q), M, ds, g.ok.mono e1, r1, ?_⟩
    have h1 : PostE X W fl M σ H1 Q (F ds) := PostE.mono h0 e1
    cases z : F ds with
    | ok d => rw [z] at h1; exact fun v H2 e2 r2 => h1 v H2 e2 (r2.mono (Sh_vis fl M _))
    | exc c fs => rw [z] at h1; exact fun cls dd H2 e2 r2 => h1 cls dd H2 e2 r2
    | bad => rw [z] at h1; exact h1
  | exc c fs => rw [q] at h0; exact h0
  | bad => rw [q] at h0; exact h0
end
end VL

set_option maxRecDepth 100000
set_option maxHeartbeats 2000000
namespace VL
open PySem L2

inductive SRes where
  | nx (env : Env) | rt (d : D) | bk (env : Env) | ct (env : Env) | xc (c : Str) (fs : List (Str × D)) (env : Env) | bad | ro (d : D)
def addM (M : Addr → Bool) (p : Addr) : Addr → Bool := fun a => M a || decide (a = p)
def PostS (X : Cx) (W : WX) (H0 : Hp) (M0 M : Addr → Bool) (H : Hp) (D : Ends) : SRes → Prop
  | .nx env => ∀ M' H' σ', Good (gm X) H0 M0 M' H' σ' env → VEx (Sh M (vw H)) (Sh M' (vw H')) → D.nx σ' H'
  | .bk env => ∀ M' H' σ', Good (gm X) H0 M0 M' H' σ' env → VEx (Sh M (vw H)) (Sh M' (vw H')) → D.bk σ' H'
  | .ct env => ∀ M' H' σ', Good (gm X) H0 M0 M' H' σ' env → VEx (Sh M (vw H)) (Sh M' (vw H')) → D.ct σ' H'
  | .rt d => ∀ v H', Ext H0 H' → Rp (gm X) (Sh M0 (vw H')) d v → D.rt v H'
  | .xc c fs env => ∀ M' H' σ' cls dd, Good (gm X) H0 M0 M' H' σ' env → VEx (Sh M (vw H)) (Sh M' (vw H')) → RpX (gm X) (Sh M' (vw H')) c fs cls dd → W cls dd σ' H'
  | .bad => False
  | .ro d => ∀ p H', Ext H0 H' → H0 p = none → OwOk (gm X) (addM M0 p) H' p d → D.rt (.ref p) H'
def VS (X : Cx) (W : WX) (st : Stmt) (ψ : Env → SRes) : Prop :=
  ∃ t : TS, PS X st t ∧ ∀ (H0 : Hp) (M0 M : Addr → Bool) (H : Hp) (σ : L2.St) (env : Env) (D : Ends), Good (gm X) H0 M0 M H σ env → PostS X W H0 M0 M H D (ψ env) → t D σ H
def VB (X : Cx) (W : WX) (st : List Stmt) (ψ : Env → SRes) : Prop :=
  ∃ t : TS, PSs X st t ∧ ∀ (H0 : Hp) (M0 M : Addr → Bool) (H : Hp) (σ : L2.St) (env : Env) (D : Ends), Good (gm X) H0 M0 M H σ env → PostS X W H0 M0 M H D (ψ env) → t D σ H
def VG (X : Cx) (tg : Expr) (γ : D → Env → Option Env) : Prop :=
  ∃ g : TG, PG X tg g ∧ ∀ (H0 : Hp) (M0 M : Addr → Bool) (H : Hp) (σ : L2.St) (env env' : Env) (d : D) (v : V) (Q : L2.St → Hp → Prop), Good (gm X) H0 M0 M H σ env → Rp (gm X) (Sh M (vw H)) d v → γ d env = some env' → (∀ σ', Good (gm X) H0 M0 M H σ' env' → Q σ' H) → g v σ H Q
theorem addM_self {M : Addr → Bool} {p : Addr} : addM M p p = true := by unfold addM; rw [decide_eq_true rfl, Bool.or_true]
theorem addM_ne {M : Addr → Bool} {p a : Addr} (h : a ≠ p) : addM M p a = M a := by unfold addM; rw [decide_eq_false h, Bool.or_false]
section
variable {mg : Gm} {H0 H H' : Hp} {M0 M : Addr → Bool} {σ : L2.St} {env : Env}
theorem get_set_ne {α : Type} {l : List α} {i j : Nat} {x : α} (h : j ≠ i) : (l.set i x)[j]? = l[j]? := List.getElem?_set_ne (Ne.symm h)
theorem isOw_sh {i : Nat} {s : Sl} (hs : isOw (some s) = false) : isOw (env.set i s)[i]? = false := by
  by_cases h : i < env.length
  · rw [List.getElem?_set_self h]; exact hs
  · rw [List.getElem?_eq_none (by rw [List.length_set]; omega)]; rfl
theorem Good.set (g : Good mg H0 M0 M H σ env) {i : Nat} {d : D} {v : V} (r : Rp mg (Sh M (vw H)) d v) : Good mg H0 M0 M H (σ.set i (some v)) (env.set i (.sh d)) where
  len := by rw [List.length_set, List.length_set]; exact g.len
  ok := g.ok
  sub := g.sub
  new := g.new
  ok0 := g.ok0
  ex := g.ex
  sl := fun j s h => by
    by_cases e : j = i
    · subst e
      have hj : j < env.length := by
        have := (List.getElem?_eq_some_iff.mp h).1
        rw [List.length_set] at this; exact this
      rw [List.getElem?_set_self hj] at h
      cases h
      exact ⟨v, List.getElem?_set_self (by rw [g.len]; exact hj), r⟩
    · rw [get_set_ne e] at h ⊢
      exact g.sl j s h
  inj := fun j k p hne h1 h2 h3 => by
    by_cases e1 : j = i
    · subst e1; rw [isOw_sh rfl] at h1; cases h1
    · by_cases e2 : k = i
      · subst e2; rw [isOw_sh rfl] at h2; cases h2
      · rw [get_set_ne e1] at h1 h3
        rw [get_set_ne e2] at h2 ⊢
        exact g.inj j k p hne h1 h2 h3
theorem Good.h0 (g : Good mg H0 M0 M H σ env) {p : Addr} (hp : H p = none) : H0 p = none := g.ex.fresh hp
theorem Good.nm (g : Good mg H0 M0 M H σ env) {p : Addr} (hp : H p = none) : M p = false ∧ M0 p = false := by
  constructor
  · cases q : M p with
    | false => rfl
    | true => obtain ⟨o, e⟩ := g.ok.dom p q; rw [hp] at e; cases e
  · cases q : M0 p with
    | false => rfl
    | true => obtain ⟨o, e⟩ := g.ok0.dom p q; rw [g.h0 hp] at e; cases e
theorem OwOk.obj {p : Addr} : ∀ {d : D}, OwOk mg M H p d → ∃ o, H p = some o ∧ (∀ xs, o ≠ .tup xs) ∧ (∀ fs, o ≠ .xd fs)
  | .lst ds, ⟨xs, h, _⟩ => ⟨_, h, (fun _ z => nomatch z), (fun _ z => nomatch z)⟩
  | .dic 0 es, ⟨kvs, h, _⟩ => ⟨_, h, (fun _ z => nomatch z), (fun _ z => nomatch z)⟩
  | .dic 1 es, ⟨kvs, h, _⟩ => ⟨_, h, (fun _ z => nomatch z), (fun _ z => nomatch z)⟩
  | .dic (_ + 2) _, h => h.elim
  | .ins c gs, ⟨C, dx, fs, m, h, _⟩ => ⟨_, h, (fun _ z => nomatch z), (fun _ z => nomatch z)⟩
  | .non, h => h.elim
  | .bl _, h => h.elim
  | .int _, h => h.elim
  | .str _, h => h.elim
  | .tup _, h => h.elim
  | .scr _, h => h.elim
  | .exn _ _, h => h.elim
  | .sel x c gs, ⟨_, C, dx, fs, m, h, _⟩ => ⟨_, h, (fun _ z => nomatch z), (fun _ z => nomatch z)⟩
theorem OwOk.nc {p : Addr} : ∀ {d : D}, OwOk mg M H p d → ∃ o, H p = some o ∧ notCd o
  | .lst ds, ⟨xs, h, _⟩ => ⟨_, h, trivial⟩
  | .dic 0 es, ⟨kvs, h, _⟩ => ⟨_, h, trivial⟩
  | .dic 1 es, ⟨kvs, h, _⟩ => ⟨_, h, trivial⟩
  | .dic (_ + 2) _, h => h.elim
  | .ins c gs, ⟨C, dx, fs, m, h, _⟩ => ⟨_, h, trivial⟩
  | .non, h => h.elim
  | .bl _, h => h.elim
  | .int _, h => h.elim
  | .str _, h => h.elim
  | .tup _, h => h.elim
  | .scr _, h => h.elim
  | .exn _ _, h => h.elim
  | .sel x c gs, ⟨_, C, dx, fs, m, h, _⟩ => ⟨_, h, trivial⟩
theorem OwOk.off {p : Addr} {d : D} (r : OwOk mg M H p d) : ∀ u, H p = some u → notCd u := by
  obtain ⟨o, ho, n⟩ := r.nc
  exact nc_at ho n
theorem sh_add (e : Ext H H') {p : Addr} (hp : H p = none) : VEx (Sh M (vw H)) (Sh (addM M p) (vw H')) := fun a u h => by
  obtain ⟨h1, h2⟩ := Sh_some h
  have hne : a ≠ p := fun q => by rw [q, vw_none.mpr hp] at h2; cases h2
  rw [Sh_of (by rw [addM_ne hne]; exact h1)]
  exact e.v a u h2
theorem OwOk.imp {M' : Addr → Bool} {p : Addr} (v : VEx (Sh M (vw H)) (Sh M' (vw H'))) (hp : ∀ o, H p = some o → ExtO o (H' p)) : ∀ {d : D}, OwOk mg M H p d → OwOk mg M' H' p d
  | .lst ds, ⟨xs, h, r⟩ => ⟨xs, hp _ h, r.mono v⟩
  | .dic 0 es, ⟨kvs, h, k, r⟩ => ⟨kvs, hp _ h, k, r.mono v⟩
  | .dic 1 es, ⟨kvs, h, k, r⟩ => ⟨kvs, hp _ h, k, r.mono v⟩
  | .dic (_ + 2) _, h => h.elim
  | .ins c gs, ⟨C, dx, fs, m, h, k, r⟩ => ⟨C, dx, fs, m, hp _ h, k, r.mono v⟩
  | .non, h => h.elim
  | .bl _, h => h.elim
  | .int _, h => h.elim
  | .str _, h => h.elim
  | .tup _, h => h.elim
  | .scr _, h => h.elim
  | .exn _ _, h => h.elim
  | .sel x c gs, ⟨q, C, dx, fs, m, h, k, r⟩ => ⟨q, C, dx, fs, m, hp _ h, k, r.mono v⟩
theorem SlotOk.imp {M' : Addr → Bool} {v : Option (Option V)} (x : VEx (Sh M (vw H)) (Sh M' (vw H'))) (hm : ∀ p, v = some (some (.ref p)) → M p = true → M' p = true ∧ ∀ o, H p = some o → ExtO o (H' p)) :
    ∀ {s : Sl}, SlotOk mg M0 M H v s → SlotOk mg M0 M' H' v s
  | .no, _ => trivial
  | .sh d, ⟨y, h, r⟩ => ⟨y, h, r.mono x⟩
  | .ow d, ⟨p, h, m, m0, r⟩ => ⟨p, h, (hm p h m).1, m0, r.imp x (hm p h m).2⟩
theorem Good.own (g : Good mg H0 M0 M H σ env) {i : Nat} {d : D} {p : Addr} (hp : H p = none) (e : Ext H H') (r : OwOk mg (addM M p) H' p d) : Good mg H0 M0 (addM M p) H' (σ.set i (some (.ref p))) (env.set i (.ow d)) where
  len := by rw [List.length_set, List.length_set]; exact g.len
  ok := by
    obtain ⟨o, ho, n1, n2⟩ := r.obj
    have m := g.ok.mono e
    refine ⟨fun a h => ?_, fun a xs h z => ?_, fun a fs h z => ?_, m.tb, fun a u h z => ?_⟩
    · by_cases q : a = p
      · subst q; exact ⟨o, ho⟩
      · rw [addM_ne q] at h; exact m.dom a h
    · by_cases q : a = p
      · subst q; rw [ho] at z; cases z; exact n1 xs rfl
      · rw [addM_ne q] at h; exact m.tup a xs h z
    · by_cases q : a = p
      · subst q; rw [ho] at z; cases z; exact n2 fs rfl
      · rw [addM_ne q] at h; exact m.xd a fs h z
    · by_cases q : a = p
      · subst q; exact r.off u z
      · rw [addM_ne q] at h; exact m.nc a u h z
  sub := fun a h => by
    by_cases q : a = p
    · subst q; exact addM_self
    · rw [addM_ne q]; exact g.sub a h
  new := fun a h => by
    by_cases q : a = p
    · subst q; exact .inr (g.h0 hp)
    · rw [addM_ne q] at h; exact g.new a h
  ok0 := g.ok0
  ex := g.ex.trans e
  sl := fun j s h => by
    by_cases q : j = i
    · subst q
      have hj : j < env.length := by
        have := (List.getElem?_eq_some_iff.mp h).1
        rw [List.length_set] at this; exact this
      rw [List.getElem?_set_self hj] at h
      cases h
      exact ⟨p, List.getElem?_set_self (by rw [g.len]; exact hj), addM_self, (g.nm hp).2, r⟩
    · rw [get_set_ne q] at h ⊢
      refine (g.sl j s h).imp (sh_add e hp) fun a _ ha => ⟨?_, fun o ho => e a o ho⟩
      have : a ≠ p := fun z => by rw [z, (g.nm hp).1] at ha; cases ha
      rw [addM_ne this]; exact ha
  inj := fun j k a hne h1 h2 h3 h4 => by
    have key : ∀ m, m ≠ i → isOw (env.set i (.ow d))[m]? = true → (σ.set i (some (.ref p)))[m]? ≠ some (some (.ref p)) := fun m hm ho hr => by
      rw [get_set_ne hm] at ho hr
      cases q : env[m]? with
      | none => rw [q] at ho; cases ho
      | some s =>
        rw [q] at ho
        cases s with
        | ow d' =>
          obtain ⟨p', e1, m1, _⟩ := g.sl m _ q
          rw [hr] at e1
          cases e1
          rw [(g.nm hp).1] at m1; cases m1
        | no => cases ho
        | sh _ => cases ho
    have at_i : ∀ m, m = i → (σ.set i (some (.ref p)))[m]? = some (some (.ref a)) → a = p := fun m hm hr => by
      subst hm
      have hj : m < σ.length := by
        have := (List.getElem?_eq_some_iff.mp hr).1
        rw [List.length_set] at this; exact this
      rw [List.getElem?_set_self hj] at hr
      cases hr; rfl
    by_cases e1 : j = i
    · have := at_i j e1 h3
      subst this
      exact key k (fun z => hne (e1.trans z.symm)) h2 h4
    · by_cases e2 : k = i
      · have := at_i k e2 h4
        subst this
        exact key j e1 h1 h3
      · rw [get_set_ne e1] at h1 h3
        rw [get_set_ne e2] at h2 h4
        exact g.inj j k a hne h1 h2 h3 h4
theorem sh_mut {p : Addr} {o : HO} (hm : M p = true) : Sh M (vw (upd H p o)) = Sh M (vw H) := by
  funext a
  by_cases q : M a = true
  · unfold Sh; rw [if_pos q, if_pos q]
  · have hne : a ≠ p := fun z => q (z ▸ hm)
    unfold Sh; rw [if_neg q, if_neg q, vw_upd_ne hne]
theorem Good.mut (g : Good mg H0 M0 M H σ env) {i : Nat} {d0 d : D} {p : Addr} {o : HO} (hi : env[i]? = some (.ow d0)) (hv : σ[i]? = some (some (.ref p))) (r : OwOk mg M (upd H p o) p d) : Good mg H0 M0 M (upd H p o) σ (env.set i (.ow d)) := by
  obtain ⟨p', e1, mp, m0, _⟩ := g.sl i _ hi
  rw [hv] at e1
  obtain rfl : p' = p := by cases e1; rfl
  have hil : i < env.length := (List.getElem?_eq_some_iff.mp hi).1
  have ows : ∀ j, isOw (env.set i (.ow d))[j]? = isOw env[j]? := fun j => by
    by_cases q : j = i
    · subst q; rw [List.getElem?_set_self hil, hi]; rfl
    · rw [get_set_ne q]
  refine ⟨by rw [List.length_set]; exact g.len, ?_, g.sub, g.new, g.ok0, ?_, fun j s h => ?_, fun j k a hne h1 h2 h3 => ?_⟩
  · obtain ⟨o', ho, n1, n2⟩ := r.obj
    refine ⟨fun a h => ?_, fun a xs h z => ?_, fun a fs h z => ?_, g.ok.tb.put (g.ok.nc p' · mp), fun a u h z => ?_⟩
    · by_cases q : a = p'
      · subst q; exact ⟨_, upd_same⟩
      · rw [upd_ne q]; exact g.ok.dom a h
    · by_cases q : a = p'
      · subst q; rw [ho] at z; cases z; exact n1 xs rfl
      · rw [upd_ne q] at z; exact g.ok.tup a xs h z
    · by_cases q : a = p'
      · subst q; rw [ho] at z; cases z; exact n2 fs rfl
      · rw [upd_ne q] at z; exact g.ok.xd a fs h z
    · by_cases q : a = p'
      · subst q; exact r.off u z
      · rw [upd_ne q] at z; exact g.ok.nc a u h z
  · refine g.ex.mut ?_ (g.ok.nc p' · mp)
    rcases g.new p' mp with z | z
    · rw [m0] at z; cases z
    · exact z
  · by_cases q : j = i
    · subst q
      rw [List.getElem?_set_self hil] at h
      cases h
      exact ⟨p', hv, mp, m0, r⟩
    · rw [get_set_ne q] at h
      cases s with
      | no => trivial
      | sh d' =>
        obtain ⟨x, e2, r2⟩ := g.sl j _ h
        exact ⟨x, e2, by rw [sh_mut mp]; exact r2⟩
      | ow d' =>
        obtain ⟨a, e2, m2, m3, r2⟩ := g.sl j _ h
        have hne : a ≠ p' := fun z => by
          subst z
          exact g.inj j i a q (by rw [h]; rfl) (by rw [hi]; rfl) e2 hv
        exact ⟨a, e2, m2, m3, r2.imp (by rw [sh_mut mp]; exact .refl _) fun o' ho' => by rw [upd_ne hne]; exact extO_of ho'⟩
  · rw [ows] at h1 h2
    exact g.inj j k a hne h1 h2 h3
def subM (M : Addr → Bool) (p : Addr) : Addr → Bool := fun a => M a && !decide (a = p)
theorem subM_ne {p a : Addr} (h : a ≠ p) : subM M p a = M a := by unfold subM; rw [decide_eq_false h]; exact Bool.and_true _
theorem subM_self {p : Addr} : subM M p p = false := by unfold subM; rw [decide_eq_true rfl]; exact Bool.and_false _
theorem sh_sub {p : Addr} : VEx (Sh M (vw H)) (Sh (subM M p) (vw H)) := fun a u h => by
  obtain ⟨h1, h2⟩ := Sh_some h
  rw [Sh_of]
  · exact h2
  · unfold subM; rw [h1]; rfl
theorem OwOk.give {p : Addr} : ∀ {d : D}, OwOk mg M H p d → Rp mg (Sh (subM M p) (vw H)) d (.ref p)
  | .lst ds, ⟨xs, h, r⟩ => .lst (by rw [Sh_of subM_self]; exact vw_of h trivial) (r.mono sh_sub)
  | .dic 0 es, ⟨kvs, h, k, r⟩ => .dicK (by rw [Sh_of subM_self]; exact vw_of h trivial) k (r.mono sh_sub)
  | .dic 1 es, ⟨kvs, h, k, r⟩ => .dicT (by rw [Sh_of subM_self]; exact vw_of h trivial) k (r.mono sh_sub)
  | .dic (_ + 2) _, h => h.elim
  | .ins c gs, ⟨C, dx, fs, m, h, k, r⟩ => .ins m (by rw [Sh_of subM_self]; exact vw_of h trivial) k (r.mono sh_sub)
  | .non, h => h.elim
  | .bl _, h => h.elim
  | .int _, h => h.elim
  | .str _, h => h.elim
  | .tup _, h => h.elim
  | .scr _, h => h.elim
  | .exn _ _, h => h.elim
  | .sel x c gs, ⟨q, C, dx, fs, m, h, k, r⟩ => by
    subst q
    exact .sel m (by rw [Sh_of subM_self]; exact vw_of h trivial) k (r.mono sh_sub)
def give (i : Nat) (env : Env) : Env := match env[i]? with
  | some (.ow d) => env.set i (.sh d)
  | _ => env
theorem Good.give (g : Good mg H0 M0 M H σ env) (i : Nat) : ∃ M', Good mg H0 M0 M' H σ (VL.give i env) ∧ VEx (Sh M (vw H)) (Sh M' (vw H)) := by
  unfold VL.give
  cases q : env[i]? with
  | none => exact ⟨M, g, .refl _⟩
  | some s =>
    cases s with
    | no => exact ⟨M, g, .refl _⟩
    | sh d => exact ⟨M, g, .refl _⟩
    | ow d =>
      obtain ⟨p, hv, mp, m0, r⟩ := g.sl i _ q
      have hil : i < env.length := (List.getElem?_eq_some_iff.mp q).1
      refine ⟨subM M p, ⟨by rw [List.length_set]; exact g.len, ?_, fun a h => ?_, fun a h => ?_, g.ok0, g.ex, fun j s h => ?_, fun j k a hne h1 h2 h3 => ?_⟩, sh_sub⟩
      · have le : ∀ a, subM M p a = true → M a = true := fun a h => (Bool.and_eq_true_iff.mp h).1
        exact ⟨fun a h => g.ok.dom a (le a h), fun a xs h => g.ok.tup a xs (le a h), fun a fs h => g.ok.xd a fs (le a h), g.ok.tb, fun a u h => g.ok.nc a u (le a h)⟩
      · have : a ≠ p := fun z => by rw [z, m0] at h; cases h
        rw [subM_ne this]; exact g.sub a h
      · exact g.new a (Bool.and_eq_true_iff.mp h).1
      · by_cases e : j = i
        · subst e
          rw [List.getElem?_set_self hil] at h
          cases h
          exact ⟨_, hv, r.give⟩
        · rw [get_set_ne e] at h
          cases s with
          | no => trivial
          | sh d' =>
            obtain ⟨x, e2, r2⟩ := g.sl j _ h
            exact ⟨x, e2, r2.mono sh_sub⟩
          | ow d' =>
            obtain ⟨a, e2, m2, m3, r2⟩ := g.sl j _ h
            have hne : a ≠ p := fun z => by
              subst z
              exact g.inj j i a e (by rw [h]; rfl) (by rw [q]; rfl) e2 hv
            exact ⟨a, e2, by rw [subM_ne hne]; exact m2, m3, r2.imp sh_sub fun o ho => extO_of ho⟩
      · have nt : ∀ m, isOw (env.set i (.sh d))[m]? = true → isOw env[m]? = true := fun m h => by
          by_cases e : m = i
          · subst e; rw [isOw_sh rfl] at h; cases h
          · rw [get_set_ne e] at h; exact h
        exact g.inj j k a hne (nt j h1) (nt k h2) h3
end
theorem PostS.mono {X : Cx} {W : WX} {H0 : Hp} {M0 M M' : Addr → Bool} {H H' : Hp} {D : Ends} {r : SRes} (h : PostS X W H0 M0 M H D r) (e : VEx (Sh M (vw H)) (Sh M' (vw H'))) : PostS X W H0 M0 M' H' D r := by
  cases r with
  | nx env => exact fun M2 H2 σ2 g2 e2 => h M2 H2 σ2 g2 (e.trans e2)
  | bk env => exact fun M2 H2 σ2 g2 e2 => h M2 H2 σ2 g2 (e.trans e2)
  | ct env => exact fun M2 H2 σ2 g2 e2 => h M2 H2 σ2 g2 (e.trans e2)
  | rt d => exact h
  | xc c fs env => exact fun M2 H2 σ2 cls dd g2 e2 r2 => h M2 H2 σ2 cls dd g2 (e.trans e2) r2
  | bad => exact h
  | ro d => exact h
end VL

set_option maxRecDepth 100000
set_option maxHeartbeats 2000000
namespace VL
open PySem L2

def nxS (env : Env) : SRes := .nx env
def seqS (ψ χ : Env → SRes) (env : Env) : SRes := match ψ env with
  | .nx env' => χ env'
  | r => r
def ofE (r : Res D) (env : Env) (k : D → SRes) : SRes := match r with
  | .ok d => k d
  | .exc c fs => .xc c fs env
  | .bad => .bad
def ofA (r : Res (List D)) (env : Env) (k : List D → SRes) : SRes := match r with
  | .ok d => k d
  | .exc c fs => .xc c fs env
  | .bad => .bad
def ofT (r : Res Bool) (env : Env) (k : Bool → SRes) : SRes := match r with
  | .ok d => k d
  | .exc c fs => .xc c fs env
  | .bad => .bad
section
variable {X : Cx} {W : WX} {fl fla flb : Bool} {e : Expr} {st : Stmt} {sts a b : List Stmt} {pos : Pos} {φ : Env → Res D} {τ : Env → Res Bool} {φs : Env → Res (List D)} {ψ χ : Env → SRes}
variable {H0 H : Hp} {M0 M : Addr → Bool} {σ : L2.St} {env : Env} {D : Ends}
theorem PostS.ofE {r : Res VL.D} {k : VL.D → SRes} {Q : VK} (g : Good (gm X) H0 M0 M H σ env) (h : PostS X W H0 M0 M H D (ofE r env k))
    (q : ∀ d v H1, Ext H H1 → Good (gm X) H0 M0 M H1 σ env → Rp (gm X) (vis fl M (vw H1)) d v → PostS X W H0 M0 M H1 D (k d) → Q v H1) : PostE X W fl M σ H Q r := by
  cases r with
  | ok d => exact fun v H1 e1 r1 => q d v H1 e1 (g.mono e1) r1 (PostS.mono h (Sh_mono e1.v))
  | exc c fs => exact fun cls dd H1 e1 r1 => h M H1 σ cls dd (g.mono e1) (Sh_mono e1.v) r1
  | bad => exact h
theorem PostS.ofT {r : Res Bool} {k : Bool → SRes} {Q : Bool → Hp → Prop} (g : Good (gm X) H0 M0 M H σ env) (h : PostS X W H0 M0 M H D (ofT r env k))
    (q : ∀ d H1, Ext H H1 → Good (gm X) H0 M0 M H1 σ env → PostS X W H0 M0 M H1 D (k d) → Q d H1) : PostT X W M σ H Q r := by
  cases r with
  | ok d => exact fun H1 e1 => q d H1 e1 (g.mono e1) (PostS.mono h (Sh_mono e1.v))
  | exc c fs => exact fun cls dd H1 e1 r1 => h M H1 σ cls dd (g.mono e1) (Sh_mono e1.v) r1
  | bad => exact h
theorem PostS.seq (h : PostS X W H0 M0 M H D (seqS ψ χ env)) {N : L2.St → Hp → Prop} (k : ∀ env' M' H' σ', Good (gm X) H0 M0 M' H' σ' env' → PostS X W H0 M0 M' H' D (χ env') → N σ' H') : PostS X W H0 M0 M H { D with nx := N } (ψ env) := by
  unfold seqS at h
  cases q : ψ env with
  | nx env' => rw [q] at h; exact fun M' H' σ' g' e' => k env' M' H' σ' g' (h.mono e')
  | bk env' => rw [q] at h; exact h
  | ct env' => rw [q] at h; exact h
  | rt d => rw [q] at h; exact h
  | xc c fs env' => rw [q] at h; exact h
  | bad => rw [q] at h; exact h
  | ro d => rw [q] at h; exact h
theorem vb_nil : VB X W [] nxS := ⟨_, pss_nil, fun H0 M0 M H σ env D g h => h M H σ g (.refl _)⟩
theorem vb_cons (h1 : VS X W st ψ) (h2 : VB X W sts χ) : VB X W (st :: sts) (seqS ψ χ) := by
  obtain ⟨t, p, r⟩ := h1
  obtain ⟨t', p', r'⟩ := h2
  refine ⟨_, pss_cons p p', fun H0 M0 M H σ env D g h => ?_⟩
  exact r H0 M0 M H σ env _ g (h.seq fun env' M' H' σ' g' h' => r' H0 M0 M' H' σ' env' D g' h')
theorem vb_one (h1 : VS X W st ψ) : VB X W [st] ψ := by
  obtain ⟨t, p, r⟩ := h1
  exact ⟨_, pss_one p, r⟩
def giveS (i : Nat) (ψ : Env → SRes) (env : Env) : SRes := ψ (give i env)
theorem vs_give (i : Nat) (h : VS X W st ψ) : VS X W st (giveS i ψ) := by
  obtain ⟨t, p, r⟩ := h
  refine ⟨t, p, fun H0 M0 M H σ env D g h => ?_⟩
  obtain ⟨M', g', e'⟩ := g.give i
  exact r H0 M0 M' H σ _ D g' (PostS.mono h e')
def bkS (env : Env) : SRes := .bk env
def ctS (env : Env) : SRes := .ct env
def dropS (φ : Env → Res VL.D) (env : Env) : SRes := ofE (φ env) env fun _ => .nx env
theorem vs_expr (h : VE X W fl e φ) (hs : swapsWith e none pos.line X.env = pure false := by rfl) : VS X W (.Expr e pos) (dropS φ) := by
  obtain ⟨t, p, r⟩ := h
  refine ⟨_, ps_expr p hs, fun H0 M0 M H σ env D g h => ?_⟩
  exact r H0 M0 M H σ env _ g (PostS.ofE g h fun d v H1 e1 g1 r1 h1 => h1 M H1 σ g1 (.refl _))
def retS (φ : Env → Res VL.D) (env : Env) : SRes := ofE (φ env) env fun d => .rt d
theorem Good.rt (g : Good (gm X) H0 M0 M H σ env) : VEx (Sh M (vw H)) (Sh M0 (vw H)) := fun a u h => by
  obtain ⟨h1, h2⟩ := Sh_some h
  rw [Sh_of]
  · exact h2
  · cases q : M0 a with
    | false => rfl
    | true => rw [g.sub a q] at h1; cases h1
theorem vs_ret (h : VE X W true e φ) : VS X W (.Return (some e) pos) (retS φ) := by
  obtain ⟨t, p, r⟩ := h
  refine ⟨_, ps_ret p, fun H0 M0 M H σ env D g h => ?_⟩
  exact r H0 M0 M H σ env _ g (PostS.ofE g h fun d v H1 e1 g1 r1 h1 => h1 v H1 g1.ex (r1.mono g1.rt))
def retNS (_ : Env) : SRes := .rt .non
def setS (i : Nat) (φ : Env → Res VL.D) (env : Env) : SRes := ofE (φ env) env fun d => .nx (env.set i (.sh d))
theorem vs_set (i : Nat) {x : Str} {pos' : Pos} (hN : X.N.Nodup) (h : VE X W true e φ) (hi : X.N[i]? = some x := by rfl) (hx : Loc X.env.scope x := by first | exact Or.inl rfl | exact Or.inr rfl) (hs : swapsWith e (some (.Name x pos')) pos.line X.env = pure false := by rfl)
    (hf : X.fn x = true ∨ X.env.scope.names.lookup x = some .local := by first | exact .inl rfl | exact .inr rfl | assumption) : VS X W (.Assign [.Name x pos'] e pos) (setS i φ) := by
  obtain ⟨t, p, r⟩ := h
  refine ⟨_, ps_set hN hi hx p hs hf, fun H0 M0 M H σ env D g h => ?_⟩
  exact r H0 M0 M H σ env _ g (PostS.ofE g h fun d v H1 e1 g1 r1 h1 => h1 M H1 _ (g1.set r1) (.refl _))
def PostN (X : Cx) (W : WX) (M : Addr → Bool) (σ : L2.St) (H : Hp) (Q : VK) : Res VL.D → Prop
  | .ok d => ∀ p H', H p = none → Ext H H' → OwOk (gm X) (addM M p) H' p d → Q (.ref p) H'
  | .exc c fs => ∀ cls dd H', Ext H H' → RpX (gm X) (Sh M (vw H')) c fs cls dd → W cls dd σ H'
  | .bad => False
def VF (X : Cx) (W : WX) (e : Expr) (φ : Env → Res VL.D) : Prop :=
  ∃ t : TE, PE X e t ∧ ∀ (H0 : Hp) (M0 M : Addr → Bool) (H : Hp) (σ : L2.St) (env : Env) (Q : VK), Good (gm X) H0 M0 M H σ env → PostN X W M σ H Q (φ env) → t σ H Q
theorem OwOk.rpN {H1 : Hp} {p : Addr} (m : M p = false) : ∀ {d : VL.D}, OwOk (gm X) (addM M p) H1 p d → Rp (gm X) (Sh M (vw H1)) d (.ref p) := by
  have le : VEx (Sh (addM M p) (vw H1)) (Sh M (vw H1)) := fun a u h => by
    obtain ⟨h1, h2⟩ := Sh_some h
    have : M a = false := by
      cases q : M a with
      | false => rfl
      | true => unfold addM at h1; rw [q] at h1; cases h1
    rw [Sh_of this]; exact h2
  intro d h
  match d, h with
  | .lst ds, ⟨xs, h, r⟩ => exact .lst (by rw [Sh_of m]; exact vw_of h trivial) (r.mono le)
  | .dic 0 es, ⟨kvs, h, k, r⟩ => exact .dicK (by rw [Sh_of m]; exact vw_of h trivial) k (r.mono le)
  | .dic 1 es, ⟨kvs, h, k, r⟩ => exact .dicT (by rw [Sh_of m]; exact vw_of h trivial) k (r.mono le)
  | .dic (_ + 2) _, h => exact h.elim
  | .ins c gs, ⟨C, dx, fs, mm, h, k, r⟩ => exact .ins mm (by rw [Sh_of m]; exact vw_of h trivial) k (r.mono le)
  | .non, h => exact h.elim
  | .bl _, h => exact h.elim
  | .int _, h => exact h.elim
  | .str _, h => exact h.elim
  | .tup _, h => exact h.elim
  | .scr _, h => exact h.elim
  | .exn _ _, h => exact h.elim
  | .sel x c gs, ⟨q, C, dx, fs, mm, h, k, r⟩ =>
    subst q
    exact .sel mm (by rw [Sh_of m]; exact vw_of h trivial) k (r.mono le)
theorem ve_new (h : VF X W e φ) : VE X W fl e φ := by
  obtain ⟨t, p, r⟩ := h
  refine ⟨t, p, fun H0 M0 M H σ env Q g h => ?_⟩
  refine r H0 M0 M H σ env Q g ?_
  cases q : φ env with
  | ok d =>
    rw [q] at h
    exact fun p H' hp e' o => h _ H' e' ((o.rpN (g.nm hp).1).mono (Sh_vis fl M _))
  | exc c fs => rw [q] at h; exact h
  | bad => rw [q] at h; exact h
def ownS (i : Nat) (φ : Env → Res VL.D) (env : Env) : SRes := ofE (φ env) env fun d => .nx (env.set i (.ow d))
theorem vs_own (i : Nat) {x : Str} {pos' : Pos} (hN : X.N.Nodup) (h : VF X W e φ) (hi : X.N[i]? = some x := by rfl) (hx : Loc X.env.scope x := by first | exact Or.inl rfl | exact Or.inr rfl) (hs : swapsWith e (some (.Name x pos')) pos.line X.env = pure false := by rfl)
    (hf : X.fn x = true ∨ X.env.scope.names.lookup x = some .local := by first | exact .inl rfl | exact .inr rfl | assumption) : VS X W (.Assign [.Name x pos'] e pos) (ownS i φ) := by
  obtain ⟨t, p, r⟩ := h
  refine ⟨_, ps_set hN hi hx p hs hf, fun H0 M0 M H σ env D g h => ?_⟩
  refine r H0 M0 M H σ env _ g ?_
  unfold ownS at h
  cases q : φ env with
  | ok d =>
    rw [q] at h
    exact fun p H' hp e' o => h _ H' _ (g.own hp e' o) (sh_add e' hp)
  | exc c fs => rw [q] at h; exact fun cls dd H1 e1 r1 => h M H1 σ cls dd (g.mono e1) (Sh_mono e1.v) r1
  | bad => rw [q] at h; exact h
theorem ow_newL {p : Addr} {ds : List VL.D} {xs : List V} (hp : H p = none) (r : RpL (gm X) (Sh M (vw H)) ds xs) : OwOk (gm X) (addM M p) (upd H p (.lst xs)) p (.lst ds) := ⟨xs, upd_same, r.mono (sh_add (Ext.new hp) hp)⟩
theorem vf_lst {es : List Expr} (h : VA X W true es φs) : VF X W (.List es pos) (aE lstD φs) := by
  obtain ⟨t, p, r⟩ := h
  refine ⟨_, pe_lst p, fun H0 M0 M H σ env Q g h => ?_⟩
  refine r H0 M0 M H σ env _ g ?_
  have h0 : PostN X W M σ H Q ((φs env).bind lstD) := h
  cases q : φs env with
  | ok ds =>
    rw [q] at h0
    intro vs H1 e1 r1
    have h1 : PostN X W M σ H Q (lstD ds) := h0
    unfold lstD at h1
    by_cases c : ds.length ≤ sizeLine
    · rw [if_pos c] at h1
      refine ⟨by rw [← r1.length]; exact c, fun p hp => h1 p _ (e1.fresh hp) (e1.trans (Ext.new hp)) (ow_newL hp r1)⟩
    · rw [if_neg c] at h1; exact h1.elim
  | exc c fs => rw [q] at h0; exact h0
  | bad => rw [q] at h0; exact h0
def appS (i : Nat) (φ : Env → Res VL.D) (env : Env) : SRes := match env[i]? with
  | some (.ow (.lst ds)) => ofE (φ env) env fun d => if ds.length < sizeLine then .nx (env.set i (.ow (.lst (ds ++ [d])))) else .bad
  | _ => .bad
theorem PostS.ite {c : Prop} [Decidable c] {r : SRes} (h : PostS X W H0 M0 M H D (if c then r else .bad)) : c ∧ PostS X W H0 M0 M H D r := by
  by_cases hc : c
  · rw [if_pos hc] at h; exact ⟨hc, h⟩
  · rw [if_neg hc] at h; exact h.elim
theorem vs_app (i : Nat) {x : Str} {px apos cpos : Pos} (h : VE X W true e φ) (hN : X.N[i]? = some x := by rfl) (hv : Vis X.env.scope x := by first | exact Or.inl rfl | exact Or.inr (Or.inl rfl) | exact Or.inr (Or.inr rfl))
    (hp : ∀ (ta : TE) (r : PE X (.Name x px) ta) (tb : TA) (rb : PA X [e] tb), PE X (.Call (.Attribute (.Name x px) "append" apos) [e] [] cpos) (tBM X.K "list" rAppend ta tb) := by exact fun _ r _ rb => pe_bm PySem.F.plainAttrs_list PySem.F.slot_list_append PySem.F.type_list_append mt_append r rb)
    (hd : (x == ("__debug__" : Str)) = false := by decide) (hcd : (x == ("__classdict__" : Str)) = false := by decide)
    (hs : swapsWith (.Call (.Attribute (.Name x px) "append" apos) [e] [] cpos) none pos.line X.env = pure false := by rfl) (hst : starEach (e :: []) X.env = (false, eval e X.env) :: starEach [] X.env := by rfl) :
    VS X W (.Expr (.Call (.Attribute (.Name x px) "append" apos) [e] [] cpos) pos) (appS i φ) := by
  obtain ⟨t, p, r⟩ := h
  refine ⟨_, ps_expr (hp _ (pe_var hN hv hd hcd) _ (pa_cons p pa_nil hst)) hs, fun H0 M0 M H σ env D g h => ?_⟩
  unfold appS at h
  cases q : env[i]? with
  | none => rw [q] at h; exact h.elim
  | some s =>
    rw [q] at h
    cases s with
    | no => exact h.elim
    | sh d => exact h.elim
    | ow d =>
      cases d with
      | lst ds =>
        obtain ⟨p', hv', mp, m0, xs, hx, rx⟩ := g.sl i _ q
        refine ⟨_, hv', .inl ⟨rfl, _, SqL.of hx⟩, ?_⟩
        refine r H0 M0 M H σ env _ g (PostS.ofE g h fun d v H1 e1 g1 r1 h1 => ?_)
        obtain ⟨hc, h1⟩ := PostS.ite h1
        have rx1 := rx.mono (Sh_mono e1.v)
        refine ⟨p', xs, v, rfl, rfl, e1 _ _ hx, by rw [← rx.length]; exact hc, ?_⟩
        have rr : OwOk (gm X) M (upd H1 p' (.lst (xs ++ [v]))) p' (.lst (ds ++ [d])) := ⟨_, upd_same, by rw [sh_mut mp]; exact rx1.append (.cons r1 .nil)⟩
        exact h1 M _ σ (g1.mut q hv' rr) (by rw [sh_mut mp]; exact .refl _)
      | _ => exact h.elim
def ifS (τ : Env → Res Bool) (ψ χ : Env → SRes) (env : Env) : SRes := ofT (τ env) env fun k => if k = true then ψ env else χ env
theorem vs_if (hc : VT X W e τ) (ha : VB X W a ψ) (hb : VB X W b χ) : VS X W (.If e a b pos) (ifS τ ψ χ) := by
  obtain ⟨t, p, r⟩ := hc
  obtain ⟨ta, pa, ra⟩ := ha
  obtain ⟨tb, pb, rb⟩ := hb
  refine ⟨_, ps_if p pa pb, fun H0 M0 M H σ env D g h => ?_⟩
  refine r H0 M0 M H σ env _ g (PostS.ofT g h fun k H1 e1 g1 h1 => ?_)
  cases k with
  | true => rw [if_pos rfl] at h1 ⊢; exact ra H0 M0 M H1 σ env D g1 h1
  | false => rw [if_neg Bool.false_ne_true] at h1 ⊢; exact rb H0 M0 M H1 σ env D g1 h1
def gnG (i : Nat) (d : VL.D) (env : Env) : Option Env := some (env.set i (.sh d))
theorem vg_n (i : Nat) {x : Str} (hN : X.N.Nodup) (hi : X.N[i]? = some x := by rfl) (hx : Loc X.env.scope x := by first | exact Or.inl rfl | exact Or.inr rfl) (hf : X.fn x = true ∨ X.env.scope.names.lookup x = some .local := by first | exact .inl rfl | exact .inr rfl | assumption) :
    VG X (.Name x pos) (gnG i) := ⟨_, pg_name hN hi hx hf, fun H0 M0 M H σ env env' d v Q g r e q => by cases e; exact q _ (g.set r)⟩
def asgS (γ : VL.D → Env → Option Env) (φ : Env → Res VL.D) (env : Env) : SRes := ofE (φ env) env fun d => match γ d env with
  | some env' => .nx env'
  | none => .bad
end
end VL

set_option maxRecDepth 100000
set_option maxHeartbeats 2000000
namespace VL
open PySem L2

def ItOk (mg : Gm) (H0 : Hp) (M : Addr → Bool) (H : Hp) (J : It) (ds : List D) : Prop :=
  ∀ (M' : Addr → Bool) (H' : Hp), MOk M' H' → Ext H0 H' → VEx (Sh M (vw H)) (Sh M' (vw H')) → ∀ i : Nat, (ds.length ≤ i → J.stop i H') ∧ ∀ d, ds[i]? = some d → J.go i H' ∧ ∀ x H2, J.yld i H' x H2 → Ext H' H2 ∧ Rp mg (Sh M' (vw H2)) d x
def PostI (X : Cx) (W : WX) (H0 : Hp) (M : Addr → Bool) (σ : L2.St) (H : Hp) (R : It → Hp → Prop) : Res (List D) → Prop
  | .ok ds => ∀ J H', Ext H H' → ItOk (gm X) H0 M H' J ds → R J H'
  | .exc c fs => ∀ cls dd H', Ext H H' → RpX (gm X) (Sh M (vw H')) c fs cls dd → W cls dd σ H'
  | .bad => False
def VI (X : Cx) (W : WX) (tg iter : Expr) (ι : Env → Res (List D)) : Prop :=
  ∃ wi : TI, PI X tg iter wi ∧ ∀ (H0 : Hp) (M0 M : Addr → Bool) (H : Hp) (σ : L2.St) (env : Env) (R : It → Hp → Prop), Good (gm X) H0 M0 M H σ env → PostI X W H0 M σ H R (ι env) → wi σ H R
theorem PostI.mono {X : Cx} {W : WX} {H0 : Hp} {M : Addr → Bool} {σ : L2.St} {H H' : Hp} {R : It → Hp → Prop} {r : Res (List D)} (h : PostI X W H0 M σ H R r) (e : Ext H H') : PostI X W H0 M σ H' R r := by
  cases r with
  | ok d => exact fun J H2 e2 r => h J H2 (e.trans e2) r
  | exc c fs => exact fun cls dd H2 e2 r => h cls dd H2 (e.trans e2) r
  | bad => exact h
theorem PostI.seq {X : Cx} {W : WX} {H0 : Hp} {fl : Bool} {M : Addr → Bool} {σ : L2.St} {H : Hp} {R : It → Hp → Prop} {r : Res D} {f : D → Res (List D)} {Q' : VK} (h : PostI X W H0 M σ H R (r.bind f))
    (k : ∀ d v H1, Ext H H1 → Rp (gm X) (vis fl M (vw H1)) d v → PostI X W H0 M σ H1 R (f d) → Q' v H1) : PostE X W fl M σ H Q' r := by
  cases r with
  | ok d => exact fun v H1 e1 r1 => k d v H1 e1 r1 (PostI.mono h e1)
  | exc c fs => exact h
  | bad => exact h
theorem PostI.args {X : Cx} {W : WX} {H0 : Hp} {fl : Bool} {M : Addr → Bool} {σ : L2.St} {H : Hp} {R : It → Hp → Prop} {r : Res (List D)} {f : List D → Res (List D)} {Q' : List V → Hp → Prop} (h : PostI X W H0 M σ H R (r.bind f))
    (k : ∀ d v H1, Ext H H1 → RpL (gm X) (vis fl M (vw H1)) d v → PostI X W H0 M σ H1 R (f d) → Q' v H1) : PostA X W fl M σ H Q' r := by
  cases r with
  | ok d => exact fun v H1 e1 r1 => k d v H1 e1 r1 (PostI.mono h e1)
  | exc c fs => exact h
  | bad => exact h
theorem pi_or {X : Cx} {tg iter : Expr} {w1 w2 : TI} (h1 : PI X tg iter w1) (h2 : PI X tg iter w2) : PI X tg iter (fun σ H R => w1 σ H R ∨ w2 σ H R) :=
  ⟨fun pins s σ H R I h => h.elim (h1.run pins s σ H R I) (h2.run pins s σ H R I)⟩
def strItems (z : Str) : List D := z.cps.toList.map fun c => .str ⟨#[c]⟩
def itemsD : D → Res (List D)
  | .lst ds => .ok ds
  | .tup ds => .ok ds
  | .str z => .ok (strItems z)
  | _ => .bad
def iE (φ : Env → Res D) (env : Env) : Res (List D) := (φ env).bind itemsD
section
variable {mg : Gm} {M M' : Addr → Bool} {H0 H H' : Hp} {K : PySem.W.Frag}
theorem itOk_list {a : Addr} {xs : List V} {ds : List D} (h : Sh M (vw H) a = some (.lst xs)) (r : RpL mg (Sh M (vw H)) ds xs) : ItOk mg H0 M H (Itl K a) ds := by
  intro M' H' m e0 e i
  have h' := e _ _ h
  have q : SqL K H' a xs := .inl (vw_lst (Sh_some h').2)
  refine ⟨fun hi => ⟨xs, q, by rw [← r.length]; exact hi⟩, fun d hd => ?_⟩
  obtain ⟨x, hx, rx⟩ := r.get hd
  refine ⟨⟨xs, x, q, hx⟩, fun y H2 z => ?_⟩
  obtain ⟨z1, z2⟩ := z
  subst z1
  have := (z2 xs q).symm.trans hx
  cases this
  exact ⟨Ext.refl _, rx.mono e⟩
theorem itOk_tup {a : Addr} {xs : List V} {ds : List D} (h : Sh M (vw H) a = some (.tup xs)) (r : RpL mg (Sh M (vw H)) ds xs) : ItOk mg H0 M H (Itt K a) ds := by
  intro M' H' m e0 e i
  have h' := e _ _ h
  have q : SqT K H' a xs := .inl (.inl (vw_tup (Sh_some h').2))
  refine ⟨fun hi => ⟨xs, q, by rw [← r.length]; exact hi⟩, fun d hd => ?_⟩
  obtain ⟨x, hx, rx⟩ := r.get hd
  refine ⟨⟨xs, x, q, hx⟩, fun y H2 z => ?_⟩
  obtain ⟨z1, z2⟩ := z
  subst z1
  have := (z2 xs q).symm.trans hx
  cases this
  exact ⟨Ext.refl _, rx.mono e⟩
theorem itOk_str {z : Str} : ItOk mg H0 M H (Its z) (strItems z) := by
  intro M' H' m e0 e i
  have hl : (strItems z).length = z.cps.size := by unfold strItems; rw [List.length_map]; exact Array.length_toList
  refine ⟨fun hi => by rw [hl] at hi; exact hi, fun d hd => ?_⟩
  unfold strItems at hd
  rw [List.getElem?_map] at hd
  cases q : z.cps.toList[i]? with
  | none => rw [q] at hd; cases hd
  | some c =>
    rw [q] at hd
    cases hd
    have q' : z.cps[i]? = some c := by rw [← Array.getElem?_toList]; exact q
    refine ⟨(Array.getElem?_eq_some_iff.mp q').1, fun x H2 y => ?_⟩
    obtain ⟨y1, c', y2, y3⟩ := y
    subst y1
    rw [q'] at y2
    cases y2
    subst y3
    exact ⟨Ext.refl _, .str _⟩
def rangeD (lo : Int) (n : Nat) : List D := (List.range n).map fun (i : Nat) => .int (lo + (i : Int))
theorem itOk_range {lo : Int} {n : Nat} : ItOk mg H0 M H (Itr lo n) (rangeD lo n) := by
  intro M' H' m e0 e i
  have hl : (rangeD lo n).length = n := by unfold rangeD; rw [List.length_map, List.length_range]
  refine ⟨fun hi => by rw [hl] at hi; exact hi, fun d hd => ?_⟩
  have hi : i < n := by
    have := (List.getElem?_eq_some_iff.mp hd).1
    rw [hl] at this; exact this
  unfold rangeD at hd
  rw [List.getElem?_map, List.getElem?_range hi] at hd
  cases hd
  refine ⟨hi, fun x H2 y => ?_⟩
  obtain ⟨y1, y2⟩ := y
  subst y1; subst y2
  exact ⟨Ext.refl _, .int _⟩
end
section
variable {X : Cx} {W : WX} {fl fla flb : Bool} {tg e iter : Expr} {es : List Expr} {sts : List Stmt} {pos : Pos} {φ : Env → Res D} {τ : Env → Res Bool} {φs : Env → Res (List D)} {ψ χ : Env → SRes} {ι : Env → Res (List D)} {γ : D → Env → Option Env}
theorem vi_seq (h : VE X W true e φ) : VI X W tg e (iE φ) := by
  obtain ⟨t, p, r⟩ := h
  refine ⟨_, pi_or (pi_list p) (pi_or (pi_tup p) (pi_str p)), fun H0 M0 M H σ env R g h => ?_⟩
  have h0 : PostI X W H0 M σ H R ((φ env).bind itemsD) := h
  have go : ∀ {Q' : VK}, (∀ d v H1, φ env = .ok d → Ext H H1 → Rp (gm X) (Sh M (vw H1)) d v → PostI X W H0 M σ H1 R (itemsD d) → Q' v H1) → t σ H Q' := fun {Q'} k => by
    refine r H0 M0 M H σ env _ g ?_
    cases q : φ env with
    | ok d => rw [q] at h0; exact fun v H1 e1 r1 => k d v H1 q e1 r1 (PostI.mono h0 e1)
    | exc c fs => rw [q] at h0; exact h0
    | bad => rw [q] at h0; exact h0
  have pick : (∃ ds, φ env = .ok (.tup ds)) ∨ (∃ z, φ env = .ok (.str z)) ∨ ∀ d, φ env = .ok d → (∀ ds, d ≠ .tup ds) ∧ ∀ z, d ≠ .str z := by
    cases q : φ env with
    | ok d =>
      cases d with
      | tup ds => exact .inl ⟨ds, rfl⟩
      | str z => exact .inr (.inl ⟨z, rfl⟩)
      | _ => exact .inr (.inr fun d hd => by cases hd; exact ⟨(fun _ z => nomatch z), (fun _ z => nomatch z)⟩)
    | exc c fs => exact .inr (.inr fun d hd => by cases hd)
    | bad => exact .inr (.inr fun d hd => by cases hd)
  rcases pick with ⟨ds, q⟩ | ⟨z, q⟩ | q
  · refine .inr (.inl (go fun d v H1 qd e1 r1 h1 => ?_))
    rw [q] at qd; cases qd
    cases r1 with
    | tup ha ra => exact ⟨_, rfl, ⟨_, .inl (.inl (vw_tup (Sh_some ha).2))⟩, h1 _ H1 (Ext.refl _) (itOk_tup ha ra)⟩
  · refine .inr (.inr (go fun d v H1 qd e1 r1 h1 => ?_))
    rw [q] at qd; cases qd
    cases r1
    exact ⟨z, rfl, h1 _ H1 (Ext.refl _) itOk_str⟩
  · refine .inl (go fun d v H1 qd e1 r1 h1 => ?_)
    obtain ⟨n1, n2⟩ := q d qd
    cases d with
    | lst ds =>
      cases r1 with
      | lst ha ra => exact ⟨_, rfl, ⟨_, .inl (vw_lst (Sh_some ha).2)⟩, h1 _ H1 (Ext.refl _) (itOk_list ha ra)⟩
    | tup ds => exact absurd rfl (n1 ds)
    | str z => exact absurd rfl (n2 z)
    | _ => exact h1.elim
def small62 (j : Int) : Bool := decide (j.natAbs.log2 < 62)
theorem small62_bd {j : Int} (h : small62 j = true) : -4611686018427387904 ≤ j ∧ j < 4611686018427387904 := by
  have h' : j.natAbs.log2 < 62 := of_decide_eq_true h
  by_cases hz : j.natAbs = 0
  · omega
  · have := (Nat.log2_lt hz).mp h'
    omega
theorem small62_of {j : Int} (h : -4611686018427387904 < j) (h2 : j < 4611686018427387904) : small62 j = true := by
  refine decide_eq_true ?_
  by_cases hz : j.natAbs = 0
  · rw [hz]; decide
  · exact (Nat.log2_lt hz).mpr (by omega)
def range1 : List D → Res (List D)
  | [.int j] => if small62 j = true then .ok (rangeD 0 j.toNat) else .bad
  | _ => .bad
def aI (f : List D → Res (List D)) (φs : Env → Res (List D)) (env : Env) : Res (List D) := (φs env).bind f
theorem PostI.ite {H0 : Hp} {M : Addr → Bool} {σ : L2.St} {H : Hp} {R : It → Hp → Prop} {c : Prop} [Decidable c] {r : Res (List D)} (h : PostI X W H0 M σ H R (if c then r else .bad)) : c ∧ PostI X W H0 M σ H R r := by
  by_cases hc : c
  · rw [if_pos hc] at h; exact ⟨hc, h⟩
  · rw [if_neg hc] at h; exact h.elim
theorem vi_range1 {a : Expr} {p : Pos} (hm : X.mg "range" = none) (ha : VA X W fl [a] φs) (hg : Gl X "range" := by rfl) (hs : starEach [a] X.env = [(false, eval a X.env)] := by rfl) : VI X W tg (.Call (.Name "range" p) [a] [] pos) (aI range1 φs) := by
  obtain ⟨t, pt, r⟩ := ha
  refine ⟨_, pi_range1 hg hm pt hs, fun H0 M0 M H σ env R g h => ?_⟩
  refine r H0 M0 M H σ env _ g (PostI.args h fun ds vs H1 e1 r1 h1 => ?_)
  cases r1 with
  | nil => exact h1.elim
  | cons r t =>
    cases t with
    | cons _ _ => cases r <;> exact h1.elim
    | nil =>
      cases r <;> first | exact h1.elim | skip
      obtain ⟨hs, h1⟩ := PostI.ite h1
      exact ⟨_, rfl, (small62_bd hs).1, (small62_bd hs).2, h1 _ H1 (Ext.refl _) itOk_range⟩
def flowL (r : SRes) (k : Env → SRes) : SRes := match r with
  | .nx env => k env
  | .ct env => k env
  | .bk env => .nx env
  | r => r
def forL (γ : D → Env → Option Env) (ψ : Env → SRes) : List D → Env → SRes
  | [], env => .nx env
  | d :: ds, env => match γ d env with
    | none => .bad
    | some env1 => flowL (ψ env1) (forL γ ψ ds)
def forS (γ : D → Env → Option Env) (ι : Env → Res (List D)) (ψ : Env → SRes) (env : Env) : SRes := ofA (ι env) env fun ds => forL γ ψ ds env
theorem vs_for (hp : PassesOwn (model X.prog X.w) X.A X.env X.xe) (hc : X.calm = true) (hi : VI X W tg iter ι) (hg : VG X tg γ) (hb : VB X W sts ψ) (hs : ∀ x, foldedSetIterable iter X.env x = pure x := by intro _; rfl) : VS X W (.For tg iter sts [] pos) (forS γ ι ψ) := by
  obtain ⟨wi, pi, ri⟩ := hi
  obtain ⟨tg', pg, rg⟩ := hg
  obtain ⟨tb, pb, rb⟩ := hb
  refine ⟨_, ps_for hp hc pi pg pb hs, fun H0 M0 M H σ env D g h => ?_⟩
  refine ri H0 M0 M H σ env _ g ?_
  unfold forS at h
  cases q : ι env with
  | bad => rw [q] at h; exact h
  | exc c fs => rw [q] at h; exact fun cls dd H1 e1 r1 => h M H1 σ cls dd (g.mono e1) (Sh_mono e1.v) r1
  | ok ds =>
    rw [q] at h
    intro J H1 e1 ok
    have h1 : PostS X W H0 M0 M H1 D (forL γ ψ ds env) := PostS.mono h (Sh_mono e1.v)
    refine ⟨fun i m σ' H' => m = ds.length - i ∧ ∃ M' env', Good (gm X) H0 M0 M' H' σ' env' ∧ VEx (Sh M (vw H1)) (Sh M' (vw H')) ∧ PostS X W H0 M0 M' H' D (forL γ ψ (ds.drop i) env'), ⟨ds.length, rfl, M, env, g.mono e1, .refl _, h1⟩, ?_⟩
    rintro i m σ' H' ⟨rfl, M', env', g', e', h'⟩
    obtain ⟨o1, o2⟩ := ok M' H' g'.ok g'.ex e' i
    cases qd : ds[i]? with
    | none =>
      have hi : ds.length ≤ i := List.getElem?_eq_none_iff.mp qd
      rw [List.drop_of_length_le hi] at h'
      exact .inl ⟨o1 hi, h' M' H' σ' g' (.refl _)⟩
    | some d =>
      obtain ⟨o3, o4⟩ := o2 d qd
      have hi : i < ds.length := (List.getElem?_eq_some_iff.mp qd).1
      have hdr : ds.drop i = d :: ds.drop (i + 1) := by
        rw [List.drop_eq_getElem_cons hi]
        rw [List.getElem?_eq_getElem hi] at qd
        cases qd; rfl
      rw [hdr] at h'
      unfold forL at h'
      cases qg : γ d env' with
      | none => rw [qg] at h'; exact h'.elim
      | some env1 =>
        rw [qg] at h'
        refine .inr ⟨o3, fun σ2 H2 => ∃ M2 env2, Good (gm X) H0 M0 M2 H2 σ2 env2 ∧ VEx (Sh M (vw H1)) (Sh M2 (vw H2)) ∧ PostS X W H0 M0 M2 H2 D (forL γ ψ (ds.drop (i + 1)) env2), fun σ2 H2 ⟨M2, env2, x1, x2, x3⟩ => ⟨ds.length - (i + 1), by omega, rfl, M2, env2, x1, x2, x3⟩, fun x H2 y => ?_⟩
        obtain ⟨ey, ry⟩ := o4 x H2 y
        refine rg H0 M0 M' H2 σ' env' env1 d x _ (g'.mono ey) ry qg fun σ3 g3 => ?_
        have h3 : PostS X W H0 M0 M' H2 D (flowL (ψ env1) (forL γ ψ (ds.drop (i + 1)))) := PostS.mono h' (Sh_mono (M := M') ey.v)
        have e3 := e'.trans (Sh_mono (M := M') ey.v)
        refine rb H0 M0 M' H2 σ3 env1 _ g3 ?_
        cases qb : ψ env1 with
        | nx env2 => rw [qb] at h3; exact fun M4 H4 σ4 g4 e4 => ⟨M4, env2, g4, e3.trans e4, PostS.mono h3 e4⟩
        | ct env2 => rw [qb] at h3; exact fun M4 H4 σ4 g4 e4 => ⟨M4, env2, g4, e3.trans e4, PostS.mono h3 e4⟩
        | bk env2 => rw [qb] at h3; exact h3
        | rt d => rw [qb] at h3; exact h3
        | xc c fs env2 => rw [qb] at h3; exact h3
        | bad => rw [qb] at h3; exact h3
        | ro d => rw [qb] at h3; exact h3
end
end VL

set_option maxRecDepth 100000
set_option maxHeartbeats 2000000
namespace VL
open PySem L2

def env0 (m : Nat) (ds : List D) : Env := ds.map .sh ++ List.replicate (m - ds.length) .no
def outS : SRes → Res D
  | .rt d => .ok d
  | .nx _ => .ok .non
  | .xc c fs _ => .exc c fs
  | _ => .bad
def defM (m : Nat) (ψ : Env → SRes) (ds : List D) : Res D := outS (ψ (env0 m ds))
theorem good0 {mg : Gm} {H : Hp} {M : Addr → Bool} {ds : List D} {vs : List V} {N : List Str} (m : MOk M H) (r : RpL mg (Sh M (vw H)) ds vs) : Good mg H M M H (L2.start N vs) (env0 N.length ds) where
  len := by unfold L2.start env0; rw [List.length_append, List.length_append, List.length_map, List.length_map, List.length_replicate, List.length_replicate, r.length]
  ok := m
  sub := fun a h => h
  new := fun a h => .inl h
  ok0 := m
  ex := .refl H
  sl := fun i s h => by
    unfold env0 at h
    by_cases hi : i < ds.length
    · rw [List.getElem?_append_left (by rw [List.length_map]; exact hi), List.getElem?_map] at h
      cases q : ds[i]? with
      | none => rw [q] at h; cases h
      | some d =>
        rw [q] at h
        cases h
        obtain ⟨v, hv, rv⟩ := r.get q
        refine ⟨v, ?_, rv⟩
        unfold L2.start
        rw [List.getElem?_append_left (by rw [List.length_map, ← r.length]; exact hi), List.getElem?_map, hv]
        rfl
    · rw [List.getElem?_append_right (by rw [List.length_map]; omega)] at h
      have := List.mem_of_getElem? h
      rw [List.mem_replicate] at this
      rw [this.2]
      trivial
  inj := fun i j p hne h1 h2 h3 => by
    have no : isOw (env0 N.length ds)[i]? = false := by
      unfold env0
      by_cases hi : i < ds.length
      · rw [List.getElem?_append_left (by rw [List.length_map]; exact hi), List.getElem?_map]
        cases ds[i]? <;> rfl
      · rw [List.getElem?_append_right (by rw [List.length_map]; omega)]
        cases q : (List.replicate (N.length - ds.length) Sl.no)[i - (List.map Sl.sh ds).length]? with
        | none => rfl
        | some s =>
          have := List.mem_of_getElem? q
          rw [List.mem_replicate] at this
          rw [this.2]; rfl
    rw [no] at h1; cases h1
abbrev WB (E : XK) : WX := fun cls d _ H => E cls d H
theorem fun_okN {P : Program} {w : World} {K : PySem.W.Frag} {mg : Str → Option Value} {base : Heap} {CX : CXT} {x qual : Str} {st : Stmt} {f : Addr} {fd : FuncData} {N ps : List Str} {k : Nat} {sp : Sp} (F : Fun K x qual st f fd) (S : FnScope N ps (defScope st)) (len : ∀ vs H Q E, sp vs H Q E → vs.length = ps.length)
    (hbody : ∀ (cdv : Value) (A : Around) (outer : List PySem.Env) (s : Shared) (H : Hp) (vs : List V) (Q : VK) (E : XK), Room k (A.deeper (PyProof.Rows.envOfC qual (defScope st) s.heap.objs.size f cdv)) → sp vs H Q E →
      ∃ t, PSs (cxOf CX P w K mg base N qual (defScope st) f cdv A outer s H E) (defBody st) t ∧ t { nx := fun _ H' => Q .non H', rt := Q } (L2.start N vs) H) : FnOk P w K mg base CX (k + 1) f fd ps sp := by
  obtain ⟨oc, od, kV, doc, pm, an, cdv, ct, osl, rfl, lk, hcd⟩ := F.ex
  exact fn_of lk hcd S len fun A outer s H vs Q E hr hsp => hbody cdv A outer s H vs Q E hr hsp
theorem fn_v {P : Program} {w : World} {K : PySem.W.Frag} {mg : Str → Option Value} {base : Heap} {x qual : Str} {st : Stmt} {f : Addr} {fd : FuncData} {N ps : List Str} {k n : Nat} {ψ : Env → SRes} (F : Fun K x qual st f fd) (S : FnScope N ps (defScope st)) (hn : ps.length = n)
    (body : ∀ (cdv : Value) (A : Around) (outer : List PySem.Env) (s : Shared) (H : Hp) (E : XK), Room k (A.deeper (PyProof.Rows.envOfC qual (defScope st) s.heap.objs.size f cdv)) →
      L2N.Takes (cxOf (L2N.CX P w) P w K mg base N qual (defScope st) f cdv A outer s H E) (WB E) →
      PassesOwn (model P w) (A.deeper (PyProof.Rows.envOfC qual (defScope st) s.heap.objs.size f cdv)) (PyProof.Rows.envOfC qual (defScope st) s.heap.objs.size f cdv) (cxOf (L2N.CX P w) P w K mg base N qual (defScope st) f cdv A outer s H E).xe →
      VB (cxOf (L2N.CX P w) P w K mg base N qual (defScope st) f cdv A outer s H E) (WB E) (defBody st) ψ) :
    FnOk P w K mg base (L2N.CX P w) (k + 1) f fd ps (spV ⟨P, w, K, mg⟩ n (defM N.length ψ)) := by
  refine fun_okN F S (fun vs H Q E h => h.1.trans hn.symm) fun cdv A outer s H vs Q E hr h => ?_
  obtain ⟨hl, M, ds, m, r, post⟩ := h
  obtain ⟨t, p, rr⟩ := body cdv A outer s H E hr (L2N.takes_of rfl rfl rfl rfl) (passes_of rfl)
  refine ⟨t, p, rr H M M H _ (env0 N.length ds) _ (good0 m r) ?_⟩
  unfold defM at post
  cases q : ψ (env0 N.length ds) with
  | rt d => rw [q] at post; exact fun v H' e r' => post v H' e r'
  | nx env => rw [q] at post; exact fun M' H' σ' g e => post .non H' g.ex .non
  | bk env => rw [q] at post; exact post.elim
  | ct env => rw [q] at post; exact post.elim
  | xc c fs env =>
    rw [q] at post
    exact fun M' H' σ' cls dd g e r' => post cls dd H' g.ex (r'.mono (Good.rt (X := cxOf (L2N.CX P w) P w K mg base N qual (defScope st) f cdv A outer s H E) g))
  | bad => rw [q] at post; exact post
  | ro d => rw [q] at post; exact post.elim
theorem fn_is {P : Program} {w : World} {K : PySem.W.Frag} {mg : Str → Option Value} {base : Heap} {CX : CXT} {f : Addr} {fd : FuncData} {ps : List Str} {k n : Nat} {gm : Gm} {F G : List D → Res D} (h : FnOk P w K mg base CX k f fd ps (spV gm n F)) (e : ∀ ds, G ds ≠ .bad → F ds = G ds) :
    FnOk P w K mg base CX k f fd ps (spV gm n G) := h.imp fun vs H Q E s => by
  obtain ⟨hl, M, ds, m, r, post⟩ := s
  refine ⟨hl, M, ds, m, r, ?_⟩
  by_cases c : G ds = .bad
  · rw [c] at post; exact post.elim
  · rw [e ds c]; exact post

def tVE (g : Gm) (X : Cx) (W : WX) (fl : Bool) (φ : Env → Res D) : TE := fun σ H Q => ∃ H0 M0 M env, Good g H0 M0 M H σ env ∧ PostE X W fl M σ H Q (φ env)
def tVT (g : Gm) (X : Cx) (W : WX) (τ : Env → Res Bool) : TT := fun σ H Q => ∃ H0 M0 M env, Good g H0 M0 M H σ env ∧ PostT X W M σ H Q (τ env)
def wipeE : Env → List Nat → Env
  | env, [] => env
  | env, v :: vs => (wipeE env vs).set v .no
theorem Good.no {mg : Gm} {H0 H : Hp} {M0 M : Addr → Bool} {σ : L2.St} {env : Env} (g : Good mg H0 M0 M H σ env) (i : Nat) (x : Option V) : Good mg H0 M0 M H (σ.set i x) (env.set i .no) where
  len := by rw [List.length_set, List.length_set]; exact g.len
  ok := g.ok
  sub := g.sub
  new := g.new
  ok0 := g.ok0
  ex := g.ex
  sl := fun j s h => by
    by_cases e : j = i
    · subst e
      have hj : j < env.length := by
        have := (List.getElem?_eq_some_iff.mp h).1
        rw [List.length_set] at this; exact this
      rw [List.getElem?_set_self hj] at h
      cases h
      trivial
    · rw [get_set_ne e] at h ⊢
      exact g.sl j s h
  inj := fun j k p hne h1 h2 h3 => by
    by_cases e1 : j = i
    · subst e1; rw [isOw_sh rfl] at h1; cases h1
    · by_cases e2 : k = i
      · subst e2; rw [isOw_sh rfl] at h2; cases h2
      · rw [get_set_ne e1] at h1 h3
        rw [get_set_ne e2] at h2 ⊢
        exact g.inj j k p hne h1 h2 h3
theorem Good.wipe {mg : Gm} {H0 H : Hp} {M0 M : Addr → Bool} {σ : L2.St} {env : Env} (g : Good mg H0 M0 M H σ env) : ∀ vs : List Nat, Good mg H0 M0 M H (L2.wipe σ vs) (wipeE env vs)
  | [] => g
  | v :: vs => (Good.wipe g vs).no v none
theorem Good.beside {mg : Gm} {H0 H H' : Hp} {M0 M : Addr → Bool} {σ : L2.St} {env : Env} (g : Good mg H0 M0 M H σ env) {p : Addr} (hp : H p = none) (e : Ext H H') {xs : List V} (hx : H' p = some (.lst xs)) : Good mg H0 M0 (addM M p) H' σ env where
  len := g.len
  ok := by
    have m := g.ok.mono e
    refine ⟨fun a h => ?_, fun a xs h z => ?_, fun a fs h z => ?_, m.tb, fun a u h z => ?_⟩
    · by_cases q : a = p
      · subst q; exact ⟨_, hx⟩
      · rw [addM_ne q] at h; exact m.dom a h
    · by_cases q : a = p
      · subst q; rw [hx] at z; cases z
      · rw [addM_ne q] at h; exact m.tup a xs h z
    · by_cases q : a = p
      · subst q; rw [hx] at z; cases z
      · rw [addM_ne q] at h; exact m.xd a fs h z
    · by_cases q : a = p
      · subst q; rw [hx] at z; cases z; trivial
      · rw [addM_ne q] at h; exact m.nc a u h z
  sub := fun a h => by
    by_cases q : a = p
    · subst q; exact addM_self
    · rw [addM_ne q]; exact g.sub a h
  new := fun a h => by
    by_cases q : a = p
    · subst q; exact .inr (g.h0 hp)
    · rw [addM_ne q] at h; exact g.new a h
  ok0 := g.ok0
  ex := g.ex.trans e
  sl := fun j s h => (g.sl j s h).imp (sh_add e hp) fun a _ ha => ⟨by
    have : a ≠ p := fun z => by rw [z, (g.nm hp).1] at ha; cases ha
    rw [addM_ne this]; exact ha, fun o ho => e a o ho⟩
  inj := g.inj
theorem Good.turn {mg : Gm} {H0 H : Hp} {M0 M : Addr → Bool} {σ : L2.St} {env : Env} (g : Good mg H0 M0 M H σ env) {p : Addr} {xs : List V} (mp : M p = true) (h0 : H0 p = none) (hs : ∀ i : Nat, isOw env[i]? = true → σ[i]? ≠ some (some (V.ref p))) : Good mg H0 M0 M (upd H p (.lst xs)) σ env where
  len := g.len
  ok := by
    refine ⟨fun a h => ?_, fun a xs h z => ?_, fun a fs h z => ?_, g.ok.tb.put (g.ok.nc p · mp), fun a u h z => ?_⟩
    · by_cases q : a = p
      · subst q; exact ⟨_, upd_same⟩
      · rw [upd_ne q]; exact g.ok.dom a h
    · by_cases q : a = p
      · subst q; rw [upd_same] at z; cases z
      · rw [upd_ne q] at z; exact g.ok.tup a xs h z
    · by_cases q : a = p
      · subst q; rw [upd_same] at z; cases z
      · rw [upd_ne q] at z; exact g.ok.xd a fs h z
    · by_cases q : a = p
      · subst q; rw [upd_same] at z; cases z; trivial
      · rw [upd_ne q] at z; exact g.ok.nc a u h z
  sub := g.sub
  new := g.new
  ok0 := g.ok0
  ex := g.ex.mut h0 (g.ok.nc p · mp)
  sl := fun j s h => by
    cases s with
    | no => trivial
    | sh d =>
      obtain ⟨x, e2, r2⟩ := g.sl j _ h
      exact ⟨x, e2, by rw [sh_mut mp]; exact r2⟩
    | ow d =>
      obtain ⟨a, e2, m2, m3, r2⟩ := g.sl j _ h
      have hne : a ≠ p := fun z => by subst z; exact hs j (by rw [h]; rfl) e2
      exact ⟨a, e2, m2, m3, r2.imp (by rw [sh_mut mp]; exact .refl _) fun o ho => by rw [upd_ne hne]; exact extO_of ho⟩
  inj := g.inj
end VL

set_option maxRecDepth 100000
set_option maxHeartbeats 2000000
namespace VL
open PySem L2

theorem wipe_get (σ : L2.St) : ∀ (vs : List Nat) (j : Nat), (L2.wipe σ vs)[j]? = if j ∈ vs ∧ j < σ.length then some none else if j ∈ vs then none else σ[j]?
  | [], j => by simp [L2.wipe]
  | v :: vs, j => by
    show ((L2.wipe σ vs).set v none)[j]? = _
    by_cases e : j = v
    · subst e
      by_cases hl : j < σ.length
      · rw [List.getElem?_set_self (by rw [L2.wipe_length]; exact hl), if_pos ⟨List.mem_cons_self, hl⟩]
      · rw [List.getElem?_eq_none (by rw [List.length_set, L2.wipe_length]; omega), if_neg (fun q => hl q.2), if_pos List.mem_cons_self]
    · rw [List.getElem?_set_ne (Ne.symm e), wipe_get σ vs j]
      have : j ∈ v :: vs ↔ j ∈ vs := by simp [e]
      simp only [this]
theorem wipe_set {σ : L2.St} {vs : List Nat} {i : Nat} {x : Option V} (h : i ∈ vs) : L2.wipe (σ.set i x) vs = L2.wipe σ vs := by
  apply List.ext_getElem?
  intro j
  rw [wipe_get, wipe_get, List.length_set]
  by_cases e : j = i
  · subst e
    simp only [h, true_and, if_true]
  · rw [List.getElem?_set_ne (Ne.symm e)]
theorem wipe_wipe {σ : L2.St} {vs : List Nat} : L2.wipe (L2.wipe σ vs) vs = L2.wipe σ vs := by
  apply List.ext_getElem?
  intro j
  rw [wipe_get, wipe_get, L2.wipe_length]
  by_cases h : j ∈ vs
  · simp only [h, true_and, if_true]
  · simp only [h, false_and, if_false]
def VGc (vs : List Nat) (X : Cx) (tg : Expr) (γ : D → Env → Option Env) : Prop :=
  ∃ g : TG, PG X tg g ∧ ∀ (H0 : Hp) (M0 M : Addr → Bool) (H : Hp) (σ : L2.St) (env env' : Env) (d : D) (v : V) (Q : L2.St → Hp → Prop), Good (gm X) H0 M0 M H σ env → Rp (gm X) (Sh M (vw H)) d v → γ d env = some env' → (∀ σ', Good (gm X) H0 M0 M H σ' env' → L2.wipe σ' vs = L2.wipe σ vs → Q σ' H) → g v σ H Q
def VTs (X : Cx) (W : WX) (ifs : List Expr) (τ : Env → Res Bool) : Prop :=
  ∃ t : TT, PTs X ifs t ∧ ∀ (H0 : Hp) (M0 M : Addr → Bool) (H : Hp) (σ : L2.St) (env : Env) (Q : Bool → Hp → Prop), Good (gm X) H0 M0 M H σ env → PostT X W M σ H Q (τ env) → t σ H Q
def yesT (_ : Env) : Res Bool := .ok true
abbrev W0 : WX := fun _ _ _ _ => False
section
variable {X : Cx} {W : WX} {vs : List Nat} {e : Expr} {pos : Pos} {τ : Env → Res Bool}
theorem vgc_n (i : Nat) {x : Str} (hm : i ∈ vs) (hN : X.N.Nodup) (hi : X.N[i]? = some x := by rfl) (hx : Loc X.env.scope x := by first | exact Or.inl rfl | exact Or.inr rfl) (hf : X.fn x = true ∨ X.env.scope.names.lookup x = some .local := by first | exact .inl rfl | exact .inr rfl | assumption) :
    VGc vs X (.Name x pos) (gnG i) := ⟨_, pg_name hN hi hx hf, fun H0 M0 M H σ env env' d v Q g r e q => by cases e; exact q _ (g.set r) (wipe_set hm)⟩
theorem vts_nil : VTs X W [] yesT := ⟨_, pts_nil, fun H0 M0 M H σ env Q g h => h H (Ext.refl H)⟩
theorem vts_one (h : VT X W e τ) : VTs X W [e] τ := by
  obtain ⟨t, p, r⟩ := h
  exact ⟨_, pts_one p, r⟩
end
def compL (γ : D → Env → Option Env) (τ : Env → Res Bool) (φ : Env → Res D) (env : Env) : List D → List D → Res D
  | [], acc => .ok (.lst acc)
  | d :: ds, acc => match γ d env with
    | none => .bad
    | some env1 => match τ env1 with
      | .ok true => (match φ env1 with
        | .ok y => if acc.length < sizeLine then compL γ τ φ env ds (acc ++ [y]) else .bad
        | _ => .bad)
      | .ok false => compL γ τ φ env ds acc
      | _ => .bad
def lcE (vs : List Nat) (γ : D → Env → Option Env) (ι : Env → Res (List D)) (τ : Env → Res Bool) (φ : Env → Res D) (env : Env) : Res D := (ι env).bind fun ds => compL γ τ φ (wipeE env vs) ds []
def tGc (g : Gm) (vs : List Nat) (γ : D → Env → Option Env) : TG := fun v σ H Q => ∃ (H0 : Hp) (M0 M : Addr → Bool) (env env' : Env) (d : D), Good g H0 M0 M H σ env ∧ Rp g (Sh M (vw H)) d v ∧ γ d env = some env' ∧ ∀ σ', Good g H0 M0 M H σ' env' → L2.wipe σ' vs = L2.wipe σ vs → Q σ' H
section
variable {X : Cx} {W : WX} {tg iter elt : Expr} {ifs : List Expr} {scope : Scope} {own : List (Str × Nat)} {pos : Pos} {ι : Env → Res (List D)} {γ : D → Env → Option Env} {τ : Env → Res Bool} {φ : Env → Res D}
theorem lc_parts {own : List (Str × Nat)} (hg : ∀ (s : Shared) (H : Hp) (C : Addr) (cl : List (Str × Addr)) (fp : List Addr), VGc (own.map (·.2)) (X.blk s H scope (compEnvC scope cl C X.env) fp) tg γ)
    (ht : ∀ (s : Shared) (H : Hp) (C : Addr) (cl : List (Str × Addr)) (fp : List Addr), VTs (X.blk s H scope (compEnvC scope cl C X.env) fp) W0 ifs τ)
    (he : ∀ (s : Shared) (H : Hp) (C : Addr) (cl : List (Str × Addr)) (fp : List Addr), VE (X.blk s H scope (compEnvC scope cl C X.env) fp) W0 true elt φ) :
    (∀ (s : Shared) (H : Hp) (C : Addr) (cl : List (Str × Addr)) (fp : List Addr), PG (X.blk s H scope (compEnvC scope cl C X.env) fp) tg (tGc (gm X) (own.map (·.2)) γ)) ∧
    (∀ (s : Shared) (H : Hp) (C : Addr) (cl : List (Str × Addr)) (fp : List Addr), PTs (X.blk s H scope (compEnvC scope cl C X.env) fp) ifs (tVT (gm X) X W0 τ)) ∧
    ∀ (s : Shared) (H : Hp) (C : Addr) (cl : List (Str × Addr)) (fp : List Addr), PE (X.blk s H scope (compEnvC scope cl C X.env) fp) elt (tVE (gm X) X W0 true φ) := by
  refine ⟨fun s H C cl fp => ?_, fun s H C cl fp => ?_, fun s H C cl fp => ?_⟩
  · obtain ⟨g, p, r⟩ := hg s H C cl fp
    exact ⟨fun pins s1 σ1 H1 v u Q I rv ⟨H0, M0, M, env, env', d, g0, rp, e, k⟩ => p.run pins s1 σ1 H1 v u Q I rv (r H0 M0 M H1 σ1 env env' d v Q g0 rp e k)⟩
  · obtain ⟨g, p, r⟩ := ht s H C cl fp
    exact ⟨fun pins s1 σ1 H1 Q I ⟨H0, M0, M, env, g0, k⟩ => p.run pins s1 σ1 H1 Q I (r H0 M0 M H1 σ1 env Q g0 k)⟩
  · obtain ⟨g, p, r⟩ := he s H C cl fp
    exact ⟨fun pins s1 σ1 H1 Q I ⟨H0, M0, M, env, g0, k⟩ => p.run pins s1 σ1 H1 Q I (r H0 M0 M H1 σ1 env Q g0 k)⟩
theorem lc_read {wi : TI} (vs : List Nat) {H0 : Hp} {M0 M : Addr → Bool} {H : Hp} {σ : L2.St} {env : Env} {Q : VK} (ri : ∀ R : It → Hp → Prop, PostI X W H0 M σ H R (ι env) → wi σ H R) (g : Good (gm X) H0 M0 M H σ env) (h : PostN X W M σ H Q (lcE vs γ ι τ φ env)) :
    tLc wi (tGc (gm X) vs γ) (tVT (gm X) X W0 τ) (tVE (gm X) X W0 true φ) vs σ H Q := by
  refine ri _ ?_
  have h0 : PostN X W M σ H Q ((ι env).bind fun ds => compL γ τ φ (wipeE env vs) ds []) := h
  cases q : ι env with
  | bad => rw [q] at h0; exact h0
  | exc c fs => rw [q] at h0; exact h0
  | ok ds =>
    rw [q] at h0
    have h1 : PostN X W M σ H Q (compL γ τ φ (wipeE env vs) ds []) := h0
    clear h0 h
    intro J H1 e1 ok1 Dd hD
    have gw := (g.mono e1).wipe vs
    have hs0 : ∀ i : Nat, isOw (wipeE env vs)[i]? = true → (L2.wipe σ vs)[i]? ≠ some (some (V.ref Dd)) := fun i ho hr => by
      cases z : (wipeE env vs)[i]? with
      | none => rw [z] at ho; cases ho
      | some s =>
        rw [z] at ho
        cases s with
        | ow d =>
          obtain ⟨p, hp, mp, _⟩ := gw.sl i _ z
          rw [hr] at hp
          cases hp
          rw [(gw.nm hD).1] at mp; cases mp
        | no => cases ho
        | sh _ => cases ho
    refine ⟨fun i m Hc => m = ds.length - i ∧ ∃ (acc : List V) (accD : List D), Good (gm X) H0 M0 (addM M Dd) Hc (L2.wipe σ vs) (wipeE env vs) ∧ Hc Dd = some (.lst acc) ∧ RpL (gm X) (Sh (addM M Dd) (vw Hc)) accD acc ∧
      VEx (Sh M (vw H1)) (Sh (addM M Dd) (vw Hc)) ∧ Ext H1 Hc ∧ PostN X W M σ H Q (compL γ τ φ (wipeE env vs) (ds.drop i) accD), ⟨ds.length, rfl, [], [], gw.beside hD (Ext.new hD) upd_same, upd_same, .nil, sh_add (Ext.new hD) hD, Ext.new hD, h1⟩, ?_⟩
    rintro i m Hc ⟨rfl, acc, accD, gc, hx, rx, ve, ex, hp⟩
    obtain ⟨o1, o2⟩ := ok1 _ Hc gc.ok gc.ex ve i
    cases qd : ds[i]? with
    | none =>
      have hi : ds.length ≤ i := List.getElem?_eq_none_iff.mp qd
      rw [List.drop_of_length_le hi] at hp
      exact .inl ⟨o1 hi, hp Dd Hc (e1.fresh hD) (e1.trans ex) ⟨acc, hx, rx⟩⟩
    | some d =>
      obtain ⟨o3, o4⟩ := o2 d qd
      have hi : i < ds.length := (List.getElem?_eq_some_iff.mp qd).1
      have hdr : ds.drop i = d :: ds.drop (i + 1) := by
        rw [List.drop_eq_getElem_cons hi]
        rw [List.getElem?_eq_getElem hi] at qd
        cases qd; rfl
      rw [hdr] at hp
      unfold compL at hp
      refine .inr ⟨o3, fun Hc' => ∃ (acc : List V) (accD : List D), Good (gm X) H0 M0 (addM M Dd) Hc' (L2.wipe σ vs) (wipeE env vs) ∧ Hc' Dd = some (.lst acc) ∧ RpL (gm X) (Sh (addM M Dd) (vw Hc')) accD acc ∧
        VEx (Sh M (vw H1)) (Sh (addM M Dd) (vw Hc')) ∧ Ext H1 Hc' ∧ PostN X W M σ H Q (compL γ τ φ (wipeE env vs) (ds.drop (i + 1)) accD), fun Hc' w => ⟨ds.length - (i + 1), by omega, rfl, w⟩, fun x H2 y => ?_⟩
      obtain ⟨ey, ry⟩ := o4 x H2 y
      cases qg : γ d (wipeE env vs) with
      | none => rw [qg] at hp; exact hp.elim
      | some env1 =>
        rw [qg] at hp
        refine ⟨H0, M0, addM M Dd, _, env1, d, gc.mono ey, ry, qg, fun σ2 g2 w2 => ⟨by rw [w2, wipe_wipe], ?_⟩⟩
        refine ⟨H0, M0, addM M Dd, env1, g2, ?_⟩
        have hp2 : PostN X W M σ H Q (match τ env1 with
          | .ok true => (match φ env1 with
            | .ok y => if accD.length < sizeLine then compL γ τ φ (wipeE env vs) (ds.drop (i + 1)) (accD ++ [y]) else .bad
            | _ => .bad)
          | .ok false => compL γ τ φ (wipeE env vs) (ds.drop (i + 1)) accD
          | _ => .bad) := hp
        cases qt : τ env1 with
        | bad => rw [qt] at hp2; exact hp2.elim
        | exc c fs => rw [qt] at hp2; exact hp2.elim
        | ok b =>
          rw [qt] at hp2
          intro H3 e3
          cases b with
          | false =>
            rw [if_neg Bool.false_ne_true]
            exact ⟨acc, accD, (gc.mono ey).mono e3, e3 _ _ (ey _ _ hx), rx.mono (Sh_mono (ey.trans e3).v), ve.trans (Sh_mono (ey.trans e3).v), (ex.trans ey).trans e3, hp2⟩
          | true =>
            rw [if_pos rfl]
            refine ⟨H0, M0, addM M Dd, env1, g2.mono e3, ?_⟩
            have hp3 : PostN X W M σ H Q (match φ env1 with
              | .ok y => if accD.length < sizeLine then compL γ τ φ (wipeE env vs) (ds.drop (i + 1)) (accD ++ [y]) else .bad
              | _ => .bad) := hp2
            cases qf : φ env1 with
            | bad => rw [qf] at hp3; exact hp3.elim
            | exc c fs => rw [qf] at hp3; exact hp3.elim
            | ok yD =>
              rw [qf] at hp3
              intro v H4 e4 r4
              have hp4 : PostN X W M σ H Q (if accD.length < sizeLine then compL γ τ φ (wipeE env vs) (ds.drop (i + 1)) (accD ++ [yD]) else .bad) := hp3
              by_cases cz : accD.length < sizeLine
              · rw [if_pos cz] at hp4
                have e34 : Ext Hc H4 := (ey.trans e3).trans e4
                have gm4 := gc.mono e34
                have rx4 : RpL (gm X) (Sh (addM M Dd) (vw H4)) accD acc := rx.mono (Sh_mono e34.v)
                refine ⟨acc, e34 _ _ hx, by rw [← rx.length]; exact cz, acc ++ [v], accD ++ [yD], gm4.turn addM_self (g.h0 (e1.fresh hD)) hs0, upd_same, ?_, ?_, ?_, hp4⟩
                · rw [sh_mut addM_self]; exact rx4.append (.cons r4 .nil)
                · rw [sh_mut addM_self]; exact ve.trans (Sh_mono e34.v)
                · exact (ex.trans e34).mut hD (gm4.ok.nc Dd · addM_self)
              · rw [if_neg cz] at hp4; exact hp4.elim
theorem vf_lc (hc : X.calm = true) (hN : X.N.Nodup) (hi : VI X W tg iter ι) (ok : BlkOk X.N X.env.scope scope own)
    (hg : ∀ (s : Shared) (H : Hp) (C : Addr) (cl : List (Str × Addr)) (fp : List Addr), VGc (own.map (·.2)) (X.blk s H scope (compEnvC scope cl C X.env) fp) tg γ)
    (ht : ∀ (s : Shared) (H : Hp) (C : Addr) (cl : List (Str × Addr)) (fp : List Addr), VTs (X.blk s H scope (compEnvC scope cl C X.env) fp) W0 ifs τ)
    (he : ∀ (s : Shared) (H : Hp) (C : Addr) (cl : List (Str × Addr)) (fp : List Addr), VE (X.blk s H scope (compEnvC scope cl C X.env) fp) W0 true elt φ)
    (hs : ∀ x, foldedSetIterable iter X.env x = pure x := by intro _; rfl) : VF X W (.ListComp elt [⟨tg, iter, ifs, 0⟩] scope pos) (lcE (own.map (·.2)) γ ι τ φ) := by
  obtain ⟨wi, pi, ri⟩ := hi
  obtain ⟨pg, pt, pe⟩ := lc_parts hg ht he
  exact ⟨_, pe_lc hc hN pi ok pg pt pe hs, fun H0 M0 M H σ env Q g h => lc_read _ (fun R => ri H0 M0 M H σ env R g) g h⟩
theorem vs_lcSet (i : Nat) {y : Str} {py spos : Pos} (hc : X.calm = true) (hN : X.N.Nodup) (hi : VI X W tg iter ι) (ok : BlkOk X.N X.env.scope scope own)
    (hg : ∀ (s : Shared) (H : Hp) (C : Addr) (cl : List (Str × Addr)) (fp : List Addr), VGc (own.map (·.2)) (X.blk s H scope (compEnvC scope cl C X.env) fp) tg γ)
    (ht : ∀ (s : Shared) (H : Hp) (C : Addr) (cl : List (Str × Addr)) (fp : List Addr), VTs (X.blk s H scope (compEnvC scope cl C X.env) fp) W0 ifs τ)
    (he : ∀ (s : Shared) (H : Hp) (C : Addr) (cl : List (Str × Addr)) (fp : List Addr), VE (X.blk s H scope (compEnvC scope cl C X.env) fp) W0 true elt φ) (hy : X.N[i]? = some y := by rfl) (hyl : X.env.scope.names.lookup y = some .local := by rfl)
    (hsw : swapsWith (.ListComp elt [⟨tg, iter, ifs, 0⟩] scope pos) (some (.Name y py)) spos.line X.env = pure true := by exact sw_true rfl rfl rfl (by decide +kernel))
    (hs : ∀ x, foldedSetIterable iter X.env x = pure x := by intro _; rfl) : VS X W (.Assign [.Name y py] (.ListComp elt [⟨tg, iter, ifs, 0⟩] scope pos) spos) (setS i (lcE (own.map (·.2)) γ ι τ φ)) := by
  obtain ⟨wi, pi, ri⟩ := hi
  obtain ⟨pg, pt, pe⟩ := lc_parts hg ht he
  refine ⟨_, ps_setLc hc hN hy hyl hsw pi ok pg pt pe hs, fun H0 M0 M H σ env D g h => lc_read _ (fun R => ri H0 M0 M H σ env R g) g ?_⟩
  unfold setS at h
  cases q : lcE (own.map (·.2)) γ ι τ φ env with
  | ok d =>
    rw [q] at h
    exact fun p H' hp e' o => h M H' _ ((g.mono e').set (OwOk.rpN (g.nm hp).1 o)) (Sh_mono e'.v)
  | exc c fs => rw [q] at h; exact fun cls dd H1 e1 r1 => h M H1 σ cls dd (g.mono e1) (Sh_mono e1.v) r1
  | bad => rw [q] at h; exact h
def strsOf : List D → Option (List Str)
  | [] => some []
  | .str s :: r => (strsOf r).map fun l => s :: l
  | _ :: _ => none
def joinS (a : Str) (ds : List D) : Res D := match strsOf ds with
  | some ys => if (ys.map (·.length)).sum + ys.length * a.length ≤ 16777216 then .ok (.str (Txt.join a ys)) else .bad
  | none => .bad
def joinD (a : Str) : D → Res D
  | .lst ds => joinS a ds
  | .tup ds => joinS a ds
  | _ => .bad
def strE (f : Str → D → Res D) (φa φb : Env → Res D) (env : Env) : Res D := (φa env).bind fun d => match d with
  | .str a => (φb env).bind (f a)
  | _ => .bad
theorem strsOf_rp {mg : Gm} {G : Vw} : ∀ {ds : List D} {xs : List V} {ys : List Str}, RpL mg G ds xs → strsOf ds = some ys → xs = ys.map V.str
  | [], _, _, .nil, h => by cases h; rfl
  | d :: ds, _, ys, .cons r t, h => by
    cases d <;> first | (cases h; done) | skip
    rename_i s
    have h' : (strsOf ds).map (fun l => s :: l) = some ys := h
    cases q : strsOf ds with
    | none => rw [q] at h'; cases h'
    | some l =>
      rw [q] at h'
      cases h'
      cases r
      rw [strsOf_rp t q]
      rfl
end
section
variable {X : Cx} {W : WX} {fl fla flb : Bool} {o e : Expr} {apos pos : Pos} {φa φb : Env → Res D}
theorem ve_join (ha : VE X W fla o φa) (hb : VE X W flb e φb) (hs : starEach [e] X.env = [(false, eval e X.env)] := by rfl) (hbase : attributeBase o "join" X.env (eval o X.env) = eval o X.env := by rfl) (hline : (apos.endLine == pos.line) = true := by rfl) :
    VE X W fl (.Call (.Attribute o "join" apos) [e] [] pos) (strE joinD φa φb) := by
  obtain ⟨ta, pa, ra⟩ := ha
  obtain ⟨tb, pb, rb⟩ := hb
  refine ⟨_, pe_join pa pb hs hbase hline, fun H0 M0 M H σ env Q g h => ?_⟩
  refine ra H0 M0 M H σ env _ g (PostE.seq h fun d v H1 e1 r1 h1 => ?_)
  cases r1 <;> first | exact h1.elim | skip
  case str a =>
    refine ⟨⟨a, rfl⟩, rb H0 M0 M H1 σ env _ (g.mono e1) (PostE.seq h1 fun d2 v2 H2 e2 r2 h2 => ?_)⟩
    have r2' := r2.mono (vis_le flb M _)
    have go : ∀ {ds : List D} {xs : List V} {p : Addr}, RpL (gm X) (vw H2) ds xs → (SqL X.K H2 p xs ∨ SqT X.K H2 p xs) → PostE X W fl M σ H2 Q (joinS a ds) → ∃ a' p' , ∃ ys : List Str, V.str a = .str a' ∧ [V.ref p] = [.ref p'] ∧ (SqL X.K H2 p' (ys.map V.str) ∨ SqT X.K H2 p' (ys.map V.str)) ∧
        (ys.map (·.length)).sum + ys.length * a'.length ≤ 16777216 ∧ Q (.str (Txt.join a' ys)) H2 := fun {ds xs p} rp sq h3 => by
      unfold joinS at h3
      cases q : strsOf ds with
      | none => rw [q] at h3; exact h3.elim
      | some ys =>
        rw [q] at h3
        obtain ⟨hz, h3⟩ := PostE.ite h3
        have ex := strsOf_rp rp q
        subst ex
        exact ⟨a, p, ys, rfl, rfl, sq, hz, h3 _ H2 (Ext.refl _) (.str _)⟩
    cases r2' <;> first | exact h2.elim | skip
    case tup p xs ds hp rp => exact go rp (.inr (.inl (.inl (vw_tup hp)))) h2
    case lst p xs ds hp rp => exact go rp (.inl (.inl (vw_lst hp))) h2
end
end VL

set_option maxRecDepth 100000
set_option maxHeartbeats 2000000
namespace VL
open PySem L2

theorem ru1 {k : Nat} {A : Around} (r : Room k A) : A.units + 1 < cLine := by have := r.un; omega
theorem ru65 {k : Nat} {A : Around} (r : Room k A) : A.units + 65 < cLine := by have := r.un; omega
theorem tkW0 {X : Cx} : L2N.Takes X (fun _ _ _ _ => False) := fun _ _ ⟨_, _, _, _, _, _, _, _, _, _, _, _, _, _, _, _, w⟩ => w.elim
theorem la_nil : ∀ (env : Env) (ds : List D), nilA env = .ok ds → ds.length = 0 := fun _ _ h => by cases h; rfl
theorem la_cons {n : Nat} {φ : Env → Res D} {φs : Env → Res (List D)} (h : ∀ env ds, φs env = .ok ds → ds.length = n) : ∀ (env : Env) (ds : List D), consA φ φs env = .ok ds → ds.length = n + 1 := fun env ds e => by
  unfold consA at e
  cases q : φ env with
  | ok d =>
    rw [q] at e
    have e' : (φs env).bind (fun ds => Res.ok (d :: ds)) = .ok ds := e
    cases z : φs env with
    | ok ds' =>
      rw [z] at e'
      cases e'
      rw [List.length_cons, h env ds' z]
    | exc c fs => rw [z] at e'; cases e'
    | bad => rw [z] at e'; cases e'
  | exc c fs => rw [q] at e; cases e
  | bad => rw [q] at e; cases e
structure Raw (K : PySem.W.Frag) (mg : Str → Option Value) (x : Str) (st : Stmt) (ps : List Str) : Prop where
  ex : ∃ (f : Addr) (fd : FuncData), mg x = some (.ref f) ∧ Fun K x x st f fd ∧ Binds K fd ps []
structure DefOk (P : Program) (w : World) (K : PySem.W.Frag) (mg : Str → Option Value) (base : Heap) (x : Str) (k : Nat) (ps : List Str) (n : Nat) (F : List D → Res D) : Prop where
  ex : ∃ (f : Addr) (fd : FuncData), mg x = some (.ref f) ∧ PySem.W.keepIn K (.ref f) = true ∧ Binds K fd ps [] ∧ FnOk P w K mg base (L2N.CX P w) k f fd ps (spV ⟨P, w, K, mg⟩ n F)
  lk : ∀ f fd, mg x = some (.ref f) → (∃ oc od osl, K.lookup f = some ⟨oc, od, .func fd, osl⟩) → FnOk P w K mg base (L2N.CX P w) k f fd ps (spV ⟨P, w, K, mg⟩ n F)
section
variable {P : Program} {w : World} {K : PySem.W.Frag} {mg : Str → Option Value} {base : Heap} {x qual : Str} {st : Stmt} {N ps : List Str} {k n : Nat} {ψ : Env → SRes} {F G : List D → Res D}
theorem def_v (N : List Str) (ψ : Env → SRes) (R : Raw K mg x st ps) (S : FnScope N ps (defScope st)) (hn : ps.length = n) (hF : F = defM N.length ψ)
    (body : ∀ (f : Addr) (cdv : Value) (A : Around) (outer : List PySem.Env) (s : Shared) (H : Hp) (E : XK), Room k (A.deeper (PyProof.Rows.envOfC x (defScope st) s.heap.objs.size f cdv)) →
      L2N.Takes (cxOf (L2N.CX P w) P w K mg base N x (defScope st) f cdv A outer s H E) (WB E) →
      PassesOwn (model P w) (A.deeper (PyProof.Rows.envOfC x (defScope st) s.heap.objs.size f cdv)) (PyProof.Rows.envOfC x (defScope st) s.heap.objs.size f cdv) (cxOf (L2N.CX P w) P w K mg base N x (defScope st) f cdv A outer s H E).xe →
      VB (cxOf (L2N.CX P w) P w K mg base N x (defScope st) f cdv A outer s H E) (WB E) (defBody st) ψ) :
    DefOk P w K mg base x (k + 1) ps n F := by
  subst hF
  obtain ⟨f, fd, h1, h2, h3⟩ := R.ex
  refine ⟨⟨f, fd, h1, h2.kp, h3, fn_v h2 S hn (body f)⟩, fun f' fd' e h => ?_⟩
  rw [h1] at e
  cases e
  obtain ⟨_, _, _, h⟩ := h
  obtain ⟨_, _, _, _, _, _, _, _, _, _, h', _⟩ := h2.ex
  rw [h'] at h
  cases h
  exact fn_v h2 S hn (body f)
theorem DefOk.is (h : DefOk P w K mg base x k ps n F) (e : ∀ ds, G ds ≠ .bad → F ds = G ds) : DefOk P w K mg base x k ps n G := by
  obtain ⟨f, fd, h1, h2, h3, h4⟩ := h.ex
  exact ⟨⟨f, fd, h1, h2, h3, fn_is h4 e⟩, fun f fd e1 e2 => fn_is (h.lk f fd e1 e2) e⟩
variable {X : Cx} {W : WX} {fl : Bool} {e : Expr} {es : List Expr} {pos p : Pos} {φs : Env → Res (List D)}
theorem ve_def (h : DefOk X.prog X.w X.K X.mg X.base x k ps n F) (tk : L2N.Takes X W) (hr : Room k X.A) (ha : VA X W true (e :: es) φs) (hn : (e :: es).length = n) (hl : ∀ env ds, φs env = .ok ds → ds.length = n) (hg : Gl X x := by rfl) (hdb : (x == ("__debug__" : Str)) = false := by decide)
    (he : starEach (e :: es) X.env = (false, eval e X.env) :: starEach es X.env := by rfl) (hpl : (backTo pos (starEach es X.env)).any (·.1) = false := by rfl) : VE X W fl (.Call (.Name x p) (e :: es) [] pos) (aE F φs) := by
  obtain ⟨f, fd, h1, h2, h3, h4⟩ := h.ex
  exact ve_call tk h4 hr h1 h2 h3 ha hn hl hg hdb he hpl
end
theorem raw_mk {K : PySem.W.Frag} {h : Heap} {mg : Str → Option Value} {x : Str} {st : Stmt} {ps : List Str} {f : Addr} {oc : Value} {od an : Option Addr} {osl : Array (Option Value)} {kV doc pm cdv ct : Value} (X : K.In h) (G : h.Ns mainGlobals mg)
    (a : PySem.W.nsIn K mainGlobals x = some (some (.ref f))) (l : K.lookup f = some ⟨oc, od, .func (PySem.W.fnOf x x (defArgs st) (defBody st) (defScope st) .none kV doc pm an cdv ct), osl⟩) (c : PySem.W.codeIn K cdv x = true) (k : PySem.W.keepIn K (.ref f) = true)
    (hb : ∀ (kV doc pm : Value) (an : Option Addr) (cdv ct : Value) (us : List Value), us.length = ps.length → bindArgs (PySem.W.fnOf x x (defArgs st) (defBody st) (defScope st) .none kV doc pm an cdv ct) ⟨us, []⟩ = pure (ps.zip us)) : Raw K mg x st ps := by
  have F := fun_mk (st := st) l c k
  exact ⟨f, _, PySem.W.mg_of X G a, F, F.binds hb⟩
def spEnd (K : PySem.W.Frag) : Sp := fun vs H Q _ => ∃ (a : Addr) (ns : List Int), vs = [.ref a] ∧ SqL K H a (ns.map V.int) ∧ TabG H ∧ ns.length ≤ 63 ∧ (∀ z ∈ ns, Builtin.Int.intBits z ≤ 1048576) ∧ ∀ H', Q (.bl true) H'
theorem rd_vw {H : Hp} {a : Addr} {xs : List V} (h : Rd H a (.lst xs)) : vw H a = some (.lst xs) := by
  rcases h with h | ⟨o, h⟩
  · exact vw_of h trivial
  · unfold vw; rw [h]
theorem end_of {P : Program} {w : World} {K : PySem.W.Frag} {mg : Str → Option Value} {base : Heap} {CX : CXT} {f : Addr} {fd : FuncData} {ps : List Str} {k : Nat} {F : List D → Res D} (h : FnOk P w K mg base CX k f fd ps (spV ⟨P, w, K, mg⟩ 1 F))
    (e : ∀ ns : List Int, ns.length ≤ 63 → (∀ z ∈ ns, Builtin.Int.intBits z ≤ 1048576) → F [.scr ns] = .ok (.bl true)) : FnOk P w K mg base CX k f fd ps (spEnd K) := h.imp fun vs H Q E s => by
  obtain ⟨a, ns, rfl, hs, tb, hl, hb, q⟩ := s
  refine ⟨rfl, fun _ => false, [.scr ns], MOk.empty tb, .cons (.scr ?_) .nil, ?_⟩
  · rcases hs with hs | hs
    · exact .inl (by rw [Sh_of rfl]; exact rd_vw hs)
    · exact .inr hs
  · rw [e ns hl hb]
    intro v H' _ r
    cases r
    exact q H'
end VL
namespace VL
open PySem L2
end VL

set_option maxRecDepth 100000
set_option maxHeartbeats 2000000
namespace VL
open PySem L2
structure Post where
  nx : Env → Prop := fun _ => False
  ct : Env → Prop := fun _ => False
  bk : Env → Prop := fun _ => False
  rt : D → Prop := fun _ => False
  xc : Str → List (Str × D) → Env → Prop := fun _ _ _ => False
  ro : D → Prop := fun _ => False
def Sat (P : Post) : SRes → Prop
  | .nx e => P.nx e | .ct e => P.ct e | .bk e => P.bk e | .rt d => P.rt d | .xc c f e => P.xc c f e | .bad => False | .ro d => P.ro d
theorem Sat.mono {P Q : Post} {r : SRes} (h : Sat P r) (h1 : ∀ e, P.nx e → Q.nx e) (h2 : ∀ e, P.ct e → Q.ct e) (h3 : ∀ e, P.bk e → Q.bk e) (h4 : ∀ e, P.rt e → Q.rt e) (h5 : ∀ c f e, P.xc c f e → Q.xc c f e) (h6 : ∀ d, P.ro d → Q.ro d) : Sat Q r := by
  cases r with
  | nx e => exact h1 e h
  | ct e => exact h2 e h
  | bk e => exact h3 e h
  | rt d => exact h4 d h
  | xc c f e => exact h5 c f e h
  | bad => exact h
  | ro d => exact h6 d h
def Post.thn (P : Post) (χ : Env → SRes) : Post := { P with nx := fun e => Sat P (χ e) }
def Post.lp (P : Post) (I : Env → Prop) : Post := { P with nx := I, ct := I, bk := P.nx }
def rSeq (r : SRes) (χ : Env → SRes) : SRes := match r with
  | .nx env => χ env
  | r => r
theorem seq_eq (ψ χ : Env → SRes) (env : Env) : seqS ψ χ env = rSeq (ψ env) χ := rfl
theorem Sat.rseq {P : Post} {r : SRes} {χ : Env → SRes} (h : Sat (P.thn χ) r) : Sat P (rSeq r χ) := by
  unfold rSeq
  cases r <;> exact h
theorem Sat.seq {P : Post} {ψ χ : Env → SRes} {env : Env} (h : Sat (P.thn χ) (ψ env)) : Sat P (seqS ψ χ env) := Sat.rseq h
theorem Sat.flow {P : Post} {r : SRes} {k : Env → SRes} (h : Sat { P with nx := fun e => Sat P (k e), ct := fun e => Sat P (k e), bk := P.nx } r) : Sat P (flowL r k) := by
  unfold flowL
  cases r <;> exact h
theorem Sat.forL' {P : Post} {γ : D → Env → Option Env} {ψ : Env → SRes} (I : Nat → Env → Prop) : ∀ (ds : List D) (k : Nat) (env : Env), I k env →
    (∀ i d env, ds[i]? = some d → I (k + i) env → ∃ e1, γ d env = some e1 ∧ Sat (P.lp (I (k + i + 1))) (ψ e1)) → (∀ env, I (k + ds.length) env → P.nx env) → Sat P (VL.forL γ ψ ds env)
  | [], k, env, h0, _, hn => hn env h0
  | d :: ds, k, env, h0, hs, hn => by
    obtain ⟨e1, g1, s1⟩ := hs 0 d env rfl h0
    unfold VL.forL
    rw [g1]
    refine Sat.flow (s1.mono ?_ ?_ (fun _ h => h) (fun _ h => h) (fun _ _ _ h => h) (fun _ h => h))
    all_goals
      intro e he
      refine Sat.forL' I ds (k + 1) e he (fun i d env q h => ?_) (fun env h => hn env ?_)
      · have := hs (i + 1) d env (by rw [gs_]; exact q) (by rw [show k + (i + 1) = k + 1 + i by omega]; exact h)
        rw [show k + (i + 1) = k + 1 + i by omega] at this
        exact this
      · rw [List.length_cons, show k + (ds.length + 1) = k + 1 + ds.length by omega]; exact h
theorem Sat.forS {P : Post} {γ : D → Env → Option Env} {ι : Env → Res (List D)} {ψ : Env → SRes} {env : Env} (I : Nat → Env → Prop) {ds : List D} (hi : ι env = .ok ds) (h0 : I 0 env)
    (hs : ∀ i d env, ds[i]? = some d → I i env → ∃ e1, γ d env = some e1 ∧ Sat (P.lp (I (i + 1))) (ψ e1)) (hn : ∀ env, I ds.length env → P.nx env) : Sat P (VL.forS γ ι ψ env) := by
  unfold VL.forS ofA
  rw [hi]
  refine Sat.forL' I ds 0 env h0 (fun i d env q h => ?_) (fun env h => hn env (by rwa [Nat.zero_add] at h))
  rw [Nat.zero_add] at h ⊢
  exact hs i d env q h
theorem Sat.forS0 {P : Post} {γ : D → Env → Option Env} {ι : Env → Res (List D)} {ψ : Env → SRes} {env : Env} (I : Env → Prop) {ds : List D} (hi : ι env = .ok ds) (h0 : I env)
    (hs : ∀ d, d ∈ ds → ∀ env, I env → ∃ e1, γ d env = some e1 ∧ Sat (P.lp I) (ψ e1)) (hn : ∀ env, I env → P.nx env) : Sat P (VL.forS γ ι ψ env) :=
  Sat.forS (fun _ => I) hi h0 (fun i d env q h => hs d (List.mem_of_getElem? q) env h) hn
theorem m_ok {n : Nat} {b : Env → SRes} {ds : List D} {d : D} (h : Sat { rt := fun x => x = d } (b (env0 n ds))) : defM n b ds = .ok d := by
  unfold defM
  cases q : b (env0 n ds) <;> rw [q] at h <;> first | exact h.elim | skip
  show outS (.rt _) = _
  rw [show _ = d from h]
  rfl
theorem m_ex {n : Nat} {b : Env → SRes} {ds : List D} {p : D → Prop} (h : Sat { rt := p } (b (env0 n ds))) : ∃ d, defM n b ds = .ok d ∧ p d := by
  unfold defM
  cases q : b (env0 n ds) <;> rw [q] at h <;> first | exact h.elim | skip
  exact ⟨_, rfl, h⟩
theorem Sat.nx {P : Post} {r : SRes} {e : Env} (h : r = .nx e) (p : P.nx e) : Sat P r := by rw [h]; exact p
theorem Sat.rt {P : Post} {r : SRes} {e : D} (h : r = .rt e) (p : P.rt e) : Sat P r := by rw [h]; exact p
def r2 (f : D → D → Res D) (a b : Res D) : Res D := a.bind fun x => b.bind fun y => f x y
def r1 {α β : Type} (f : α → Res β) (a : Res α) : Res β := a.bind f
def rC (a : Res D) (b : Res (List D)) : Res (List D) := a.bind fun x => b.bind fun y => .ok (x :: y)
def rAnd (a b : Res Bool) : Res Bool := a.bind fun x => if x = true then b else .ok false
def rOr (a b : Res Bool) : Res Bool := a.bind fun x => if x = true then .ok true else b
def rNot (a : Res Bool) : Res Bool := a.bind fun x => .ok (!x)
def rAndE (a b : Res D) : Res D := a.bind fun d => match d with
  | .bl true => b
  | .bl false => .ok (.bl false)
  | _ => .bad
def rOrE (a b : Res D) : Res D := a.bind fun d => match d with
  | .bl true => .ok (.bl true)
  | .bl false => b
  | _ => .bad
def rIfE (t : Res Bool) (a b : Res D) : Res D := t.bind fun x => if x = true then a else b
def rSl (a : Res D) (l h : Res (Option Int)) : Res D := a.bind fun d => l.bind fun l => h.bind fun u => sliceD d l u
def rCh (f f' : D → D → Res D) (a b c : Res D) : Res D := a.bind fun x => b.bind fun y => (f x y).bind fun z => match z with
  | .bl true => c.bind fun w => f' y w
  | .bl false => .ok (.bl false)
  | _ => .bad
def rStr (f : Str → D → Res D) (a b : Res D) : Res D := a.bind fun d => match d with
  | .str a => b.bind (f a)
  | _ => .bad
def rImm (a : Res D) : Res D := a.bind fun d => if immut d = true then .ok d else .bad
def rSet (i : Nat) (r : Res D) (env : Env) : SRes := ofE r env fun d => .nx (env.set i (.sh d))
def rOwn (i : Nat) (r : Res D) (env : Env) : SRes := ofE r env fun d => .nx (env.set i (.ow d))
def rRet (r : Res D) (env : Env) : SRes := ofE r env fun d => .rt d
def rDrop (r : Res D) (env : Env) : SRes := ofE r env fun _ => .nx env
def rIf (t : Res Bool) (ψ χ : Env → SRes) (env : Env) : SRes := ofT t env fun k => if k = true then ψ env else χ env
def rAsg (γ : D → Env → Option Env) (r : Res D) (env : Env) : SRes := ofE r env fun d => match γ d env with
  | some env' => .nx env'
  | none => .bad
def rApp (i : Nat) (s : Option Sl) (r : Res D) (env : Env) : SRes := match s with
  | some (.ow (.lst ds)) => ofE r env fun d => if ds.length < sizeLine then .nx (env.set i (.ow (.lst (ds ++ [d])))) else .bad
  | _ => .bad
def rGet (s : Option Sl) : Res D := match s with
  | some (.sh d) => .ok d
  | _ => .bad
def rGetB (s : Option Sl) : Res D := match s with
  | some (.sh d) => .ok d
  | some (.ow d) => .ok d
  | _ => .bad
section
variable {f f' : D → D → Res D} {φ φa φb φc : Env → Res D} {φs : Env → Res (List D)} {τ τ' : Env → Res Bool} {env : Env} {i : Nat} {d e w : D} {ds : List D} {b c : Bool} {ψ χ : Env → SRes} {γ : D → Env → Option Env}
theorem getP_eq : getP i env = rGet env[i]? := rfl
theorem getB_eq : getB i env = rGetB env[i]? := rfl
theorem rGet_ok : rGet (some (.sh d)) = .ok d := rfl
theorem rGetB_ok : rGetB (some (.sh d)) = .ok d := rfl
theorem rGetB_ow : rGetB (some (.ow d)) = .ok d := rfl
theorem cE_eq : cE d env = .ok d := rfl
theorem op2_eq : op2 f φa φb env = r2 f (φa env) (φb env) := rfl
theorem r2_ok : r2 f (.ok d) (.ok e) = f d e := rfl
theorem aE_eq {g : List D → Res D} : aE g φs env = r1 g (φs env) := rfl
theorem aI_eq {g : List D → Res (List D)} : aI g φs env = r1 g (φs env) := rfl
theorem iE_eq : iE φ env = r1 itemsD (φ env) := rfl
theorem tE_eq : tE φ env = r1 toB (φ env) := rfl
theorem someO_eq : someO φ env = r1 toI (φ env) := rfl
theorem notE_eq : notE φ env = r1 notD (φ env) := rfl
theorem isTE_eq {T : String} : isTE T φ env = r1 (isT T) (φ env) := rfl
theorem r1_ok {α β : Type} {g : α → Res β} {a : α} : r1 g (.ok a) = g a := rfl
theorem toB_ok : toB (.bl b) = .ok b := rfl
theorem toI_ok {k : Int} : toI (.int k) = .ok (some k) := rfl
theorem notD_ok : notD (.bl b) = .ok (.bl (!b)) := rfl
theorem noO_eq : noO env = .ok none := rfl
theorem nilA_eq : nilA env = .ok [] := rfl
theorem consA_eq : consA φ φs env = rC (φ env) (φs env) := rfl
theorem rC_ok : rC (.ok d) (.ok ds) = .ok (d :: ds) := rfl
theorem andT_eq : andT τ τ' env = rAnd (τ env) (τ' env) := rfl
theorem orT_eq : orT τ τ' env = rOr (τ env) (τ' env) := rfl
theorem notT_eq : notT τ env = rNot (τ env) := rfl
theorem rAnd_t {r : Res Bool} : rAnd (.ok true) r = r := rfl
theorem rAnd_f {r : Res Bool} : rAnd (.ok false) r = .ok false := rfl
theorem rAnd_ok : rAnd (.ok b) (.ok c) = .ok (b && c) := by cases b <;> rfl
theorem rOr_t {r : Res Bool} : rOr (.ok true) r = .ok true := rfl
theorem rOr_f {r : Res Bool} : rOr (.ok false) r = r := rfl
theorem rOr_ok : rOr (.ok b) (.ok c) = .ok (b || c) := by cases b <;> rfl
theorem rNot_ok : rNot (.ok b) = .ok (!b) := rfl
theorem andE_eq : andE φa φb env = rAndE (φa env) (φb env) := rfl
theorem orE_eq : orE φa φb env = rOrE (φa env) (φb env) := rfl
theorem rAndE_t {r : Res D} : rAndE (.ok (.bl true)) r = r := rfl
theorem rAndE_f {r : Res D} : rAndE (.ok (.bl false)) r = .ok (.bl false) := rfl
theorem rAndE_ok : rAndE (.ok (.bl b)) (.ok (.bl c)) = .ok (.bl (b && c)) := by cases b <;> rfl
theorem rOrE_t {r : Res D} : rOrE (.ok (.bl true)) r = .ok (.bl true) := rfl
theorem rOrE_f {r : Res D} : rOrE (.ok (.bl false)) r = r := rfl
theorem rOrE_ok : rOrE (.ok (.bl b)) (.ok (.bl c)) = .ok (.bl (b || c)) := by cases b <;> rfl
theorem ifE_eq : ifE τ φa φb env = rIfE (τ env) (φa env) (φb env) := rfl
theorem rIfE_ok {r r' : Res D} : rIfE (.ok b) r r' = if b = true then r else r' := rfl
theorem slE_eq {ml mh : Env → Res (Option Int)} : slE φ ml mh env = rSl (φ env) (ml env) (mh env) := rfl
theorem rSl_ok {l h : Option Int} : rSl (.ok d) (.ok l) (.ok h) = sliceD d l h := rfl
theorem chE_eq : chE f f' φa φb φc env = rCh f f' (φa env) (φb env) (φc env) := rfl
theorem rCh_ok (h : f d e = .ok (.bl b)) (h' : f' e w = .ok (.bl c)) : rCh f f' (.ok d) (.ok e) (.ok w) = .ok (.bl (b && c)) := by
  show ((f d e).bind _) = _
  rw [h]
  cases b
  · rfl
  · exact h'
theorem rCh_le {i j k : Int} : rCh leD leD (.ok (.int i)) (.ok (.int j)) (.ok (.int k)) = .ok (.bl (decide (i ≤ j) && decide (j ≤ k))) := rCh_ok rfl rfl
theorem rCh_lelt {i j k : Int} : rCh leD ltD (.ok (.int i)) (.ok (.int j)) (.ok (.int k)) = .ok (.bl (decide (i ≤ j) && decide (j < k))) := rCh_ok rfl rfl
theorem rCh_ltlt {i j k : Int} : rCh ltD ltD (.ok (.int i)) (.ok (.int j)) (.ok (.int k)) = .ok (.bl (decide (i < j) && decide (j < k))) := rCh_ok rfl rfl
theorem rCh_ltle {i j k : Int} : rCh ltD leD (.ok (.int i)) (.ok (.int j)) (.ok (.int k)) = .ok (.bl (decide (i < j) && decide (j ≤ k))) := rCh_ok rfl rfl
theorem strE_eq {g : Str → D → Res D} : strE g φa φb env = rStr g (φa env) (φb env) := rfl
theorem rStr_ok {g : Str → D → Res D} {s : Str} : rStr g (.ok (.str s)) (.ok d) = g s d := rfl
theorem immE_eq : immE φ env = rImm (φ env) := rfl
theorem rImm_ok : rImm (.ok d) = if immut d = true then .ok d else .bad := rfl
theorem rSeq_nx : rSeq (.nx env) χ = χ env := rfl
theorem rSeq_rt : rSeq (.rt d) χ = .rt d := rfl
theorem rSeq_bk : rSeq (.bk env) χ = .bk env := rfl
theorem rSeq_ct : rSeq (.ct env) χ = .ct env := rfl
theorem rSeq_xc {C : Str} {fs : List (Str × D)} : rSeq (.xc C fs env) χ = .xc C fs env := rfl
theorem setS_eq : setS i φ env = rSet i (φ env) env := rfl
theorem rSet_ok : rSet i (.ok d) env = .nx (env.set i (.sh d)) := rfl
theorem ownS_eq : ownS i φ env = rOwn i (φ env) env := rfl
theorem rOwn_ok : rOwn i (.ok d) env = .nx (env.set i (.ow d)) := rfl
theorem retS_eq : retS φ env = rRet (φ env) env := rfl
theorem rRet_ok : rRet (.ok d) env = .rt d := rfl
theorem retNS_eq : retNS env = .rt .non := rfl
theorem nxS_eq : nxS env = .nx env := rfl
theorem bkS_eq : bkS env = .bk env := rfl
theorem ctS_eq : ctS env = .ct env := rfl
theorem dropS_eq : dropS φ env = rDrop (φ env) env := rfl
theorem rDrop_ok : rDrop (.ok d) env = .nx env := rfl
theorem ifS_eq : ifS τ ψ χ env = rIf (τ env) ψ χ env := rfl
theorem rIf_t : rIf (.ok true) ψ χ env = ψ env := rfl
theorem rIf_f : rIf (.ok false) ψ χ env = χ env := rfl
theorem Sat.ifb {P : Post} (h1 : b = true → Sat P (ψ env)) (h2 : b = false → Sat P (χ env)) : Sat P (rIf (.ok b) ψ χ env) := by
  cases b
  · exact h2 rfl
  · exact h1 rfl
theorem Sat.ifP {P : Post} {p : Prop} [Decidable p] (h1 : p → Sat P (ψ env)) (h2 : ¬p → Sat P (χ env)) : Sat P (rIf (.ok (decide p)) ψ χ env) :=
  Sat.ifb (fun h => h1 (of_decide_eq_true h)) (fun h => h2 (of_decide_eq_false h))
theorem asgS_eq : asgS γ φ env = rAsg γ (φ env) env := rfl
theorem appS_eq : appS i φ env = rApp i env[i]? (φ env) env := by
  unfold appS rApp
  rfl
theorem rApp_ok : rApp i (some (.ow (.lst ds))) (.ok d) env = if ds.length < sizeLine then .nx (env.set i (.ow (.lst (ds ++ [d])))) else .bad := rfl
theorem giveS_eq : giveS i ψ env = ψ (VL.give i env) := rfl
theorem gnG_eq : gnG i d env = some (env.set i (.sh d)) := rfl
theorem Sat_nx {P : Post} : Sat P (.nx env) = P.nx env := rfl
theorem Sat_rt {P : Post} : Sat P (.rt d) = P.rt d := rfl
theorem Sat_ct {P : Post} : Sat P (.ct env) = P.ct env := rfl
theorem Sat_bk {P : Post} : Sat P (.bk env) = P.bk env := rfl
theorem Sat_xc {P : Post} {C : Str} {fs : List (Str × D)} : Sat P (.xc C fs env) = P.xc C fs env := rfl
theorem thn_nx {P : Post} : (P.thn χ).nx env = Sat P (χ env) := rfl
theorem thn_rt {P : Post} : (P.thn χ).rt d = P.rt d := rfl
theorem thn_ct {P : Post} : (P.thn χ).ct env = P.ct env := rfl
theorem thn_bk {P : Post} : (P.thn χ).bk env = P.bk env := rfl
theorem thn_xc {P : Post} {C : Str} {fs : List (Str × D)} : (P.thn χ).xc C fs env = P.xc C fs env := rfl
theorem lp_nx {P : Post} {I : Env → Prop} : (P.lp I).nx env = I env := rfl
theorem lp_ct {P : Post} {I : Env → Prop} : (P.lp I).ct env = I env := rfl
theorem lp_bk {P : Post} {I : Env → Prop} : (P.lp I).bk env = P.nx env := rfl
theorem lp_rt {P : Post} {I : Env → Prop} : (P.lp I).rt d = P.rt d := rfl
theorem lp_xc {P : Post} {I : Env → Prop} {C : Str} {fs : List (Str × D)} : (P.lp I).xc C fs env = P.xc C fs env := rfl
theorem add_int {i j : Int} : addD (.int i) (.int j) = .ok (.int (i + j)) := rfl
theorem add_str {i j : Str} (h : i.length + j.length ≤ sizeLine) : addD (.str i) (.str j) = .ok (.str (i ++ j)) := if_pos h
theorem sub_int {i j : Int} : subD (.int i) (.int j) = .ok (.int (i - j)) := rfl
theorem mul_int {i j : Int} (h : i.natAbs.log2 + j.natAbs.log2 < 1000000) : mulD (.int i) (.int j) = .ok (.int (i * j)) := if_pos h
theorem mod_int {i j : Int} (h : 0 < j) : modD (.int i) (.int j) = .ok (.int (i % j)) := if_pos h
theorem fdiv_int {i j : Int} (h : 0 < j ∧ j < 1073741824) : fdivD (.int i) (.int j) = .ok (.int (i / j)) := if_pos h
theorem pow_int {i j : Int} (h : 0 ≤ j ∧ j ≤ 1000000 ∧ i.natAbs < 2 ^ 64) : powD (.int i) (.int j) = .ok (.int (i ^ j.toNat)) := if_pos h
theorem pow_18 : powD (.int 10) (.int 18) = .ok (.int 1000000000000000000) := pow_int (by decide)
theorem lt_int {i j : Int} : ltD (.int i) (.int j) = .ok (.bl (decide (i < j))) := rfl
theorem le_int {i j : Int} : leD (.int i) (.int j) = .ok (.bl (decide (i ≤ j))) := rfl
theorem gt_int {i j : Int} : gtD (.int i) (.int j) = .ok (.bl (decide (j < i))) := rfl
theorem ge_int {i j : Int} : geD (.int i) (.int j) = .ok (.bl (decide (j ≤ i))) := rfl
theorem isN_eq : isNO d .non = .ok (.bl (isNon d)) := rfl
theorem notN_eq : notNO d .non = .ok (.bl (!isNon d)) := rfl
theorem len_lst : lenF [.lst ds] = .ok (.int ds.length) := rfl
theorem len_tup : lenF [.tup ds] = .ok (.int ds.length) := rfl
theorem len_scr {ns : List Int} : lenF [.scr ns] = .ok (.int ns.length) := rfl
theorem len_str {s : Str} (h : s.length ≤ sizeLine) : lenF [.str s] = .ok (.int s.length) := if_pos h
theorem int_int {k : Int} : intF [.int k] = .ok (.int k) := rfl
theorem get_str {z : Str} {k : Int} : getD (.str z) (.int k) = strGet z k := rfl
theorem get_tup {k : Int} : getD (.tup ds) (.int k) = seqGet ds k := rfl
theorem get_lst {k : Int} : getD (.lst ds) (.int k) = seqGet ds k := rfl
theorem get_scr {ns : List Int} {k : Int} : getD (.scr ns) (.int k) = seqGet (ns.map .int) k := rfl
theorem items_str {z : Str} : itemsD (.str z) = .ok (strItems z) := rfl
theorem items_lst : itemsD (.lst ds) = .ok ds := rfl
theorem items_tup : itemsD (.tup ds) = .ok ds := rfl
theorem range1_ok {k : Int} (h : -4611686018427387904 < k ∧ k < 4611686018427387904) : range1 [.int k] = .ok (rangeD 0 k.toNat) := if_pos (small62_of h.1 h.2)
theorem range1_nat {k : Nat} (h : k < 4611686018427387904) : range1 [.int (k : Int)] = .ok (rangeD 0 k) := by rw [range1_ok (by omega), Int.toNat_natCast]
theorem lst_ok (h : ds.length ≤ sizeLine) : lstD ds = .ok (.lst ds) := if_pos h
theorem tup_ok (h : ds.length ≤ sizeLine) : tupD ds = .ok (.tup ds) := if_pos h
theorem lst_nil : lstD [] = .ok (.lst []) := if_pos (Nat.zero_le _)
theorem sl_str {z : Str} {l u : Option Int} (h : z.length ≤ sizeLine) : sliceD (.str z) l u = .ok (.str (cutS z l u)) := if_pos h
theorem sl_tup {l u : Option Int} : sliceD (.tup ds) l u = .ok (.tup (cutD ds l u)) := rfl
theorem sl_lst {l u : Option Int} : sliceD (.lst ds) l u = .ok (.lst (cutD ds l u)) := rfl
theorem isT_bl {b : Bool} : isT "bool" (.bl b) = .ok (.bl true) := rfl
end
theorem str_len (s : Str) : s.length = s.cps.toList.length := rfl
theorem str_app (s t : Str) : (s ++ t).cps.toList = s.cps.toList ++ t.cps.toList := by
  show (s.cps ++ t.cps).toList = _
  simp
theorem str_app_len (s t : Str) : (s ++ t).length = s.length + t.length := by
  rw [str_len, str_app, List.length_append]; rfl
theorem str_ext {s t : Str} (h : s.cps.toList = t.cps.toList) : s = t := by
  cases s; cases t
  exact congrArg Str.mk (Array.toList_inj.mp h)
theorem strGet_of {z : Str} {i : Nat} (hl : z.length ≤ sizeLine) (h : i < z.length) : ∃ c, z.cps.toList[i]? = some c ∧ strGet z i = .ok (.str ⟨#[c]⟩) := by
  have h' : i < z.cps.toList.length := h
  refine ⟨z.cps.toList[i], List.getElem?_eq_getElem h', ?_⟩
  unfold strGet
  rw [if_pos hl]
  unfold atI
  have : ixN z.cps.toList.length (i : Int) = some i := by
    unfold ixN
    rw [if_pos (by omega), if_pos (by omega)]; rfl
  rw [this]
  show (match z.cps.toList[i]? with | some c => Res.ok (D.str ⟨#[c]⟩) | none => .bad) = _
  rw [List.getElem?_eq_getElem h']
theorem seqGet_of {ds : List D} {i : Nat} {d : D} (h : ds[i]? = some d) : seqGet ds i = .ok d := by
  have h' : i < ds.length := (List.getElem?_eq_some_iff.mp h).1
  unfold seqGet atI
  have : ixN ds.length (i : Int) = some i := by
    unfold ixN
    rw [if_pos (by omega), if_pos (by omega)]; rfl
  rw [this]
  show (match ds[i]? with | some c => Res.ok c | none => .bad) = _
  rw [h]
theorem rangeD_get {lo : Int} {n i : Nat} {d : D} (h : (rangeD lo n)[i]? = some d) : i < n ∧ d = .int (lo + i) := by
  unfold rangeD at h
  rw [List.getElem?_map] at h
  cases q : (List.range n)[i]? with
  | none => rw [q] at h; cases h
  | some j =>
    rw [q] at h
    have := List.getElem?_eq_some_iff.mp q
    obtain ⟨h1, h2⟩ := this
    rw [List.getElem_range] at h2
    rw [List.length_range] at h1
    subst h2
    cases h
    exact ⟨h1, rfl⟩
theorem rangeD_len (lo : Int) (n : Nat) : (rangeD lo n).length = n := by unfold rangeD; rw [List.length_map, List.length_range]
theorem rangeD_mem {lo : Int} {n : Nat} {d : D} (h : d ∈ rangeD lo n) : ∃ i : Nat, i < n ∧ d = .int (lo + i) := by
  unfold rangeD at h
  obtain ⟨i, h1, h2⟩ := List.mem_map.mp h
  exact ⟨i, List.mem_range.mp h1, h2.symm⟩
theorem shaped_flat {p : PyData} (h : p.canLay0 = true) (d : p.depth ≤ 64) : SeqAt.shaped p = true := by
  unfold SeqAt.shaped
  rw [h, decide_eq_true d]; rfl
def okS (s : Str) : Bool := s.cps.all (· < 0x110000)
theorem cmp_str {s : Str} (h : okS s = true) : cmpOk (.str s) = true := by
  unfold cmpOk
  rw [show plain (.str s) = true from rfl, Bool.true_and]
  refine shaped_flat ?_ (by simp [toPy, PyData.depth])
  unfold toPy PyData.canLay0
  exact h
theorem cmp_int (i : Int) : cmpOk (.int i) = true := by
  unfold cmpOk
  rw [show plain (.int i) = true from rfl, Bool.true_and]
  exact shaped_flat (by simp [toPy, PyData.canLay0]) (by simp [toPy, PyData.depth])
theorem cmp_bl (i : Bool) : cmpOk (.bl i) = true := by
  unfold cmpOk
  rw [show plain (.bl i) = true from rfl, Bool.true_and]
  exact shaped_flat (by simp [toPy, PyData.canLay0]) (by simp [toPy, PyData.depth])
theorem eqD_str (s t : Str) : eqD (.str s) (.str t) = decide (s = t) := by
  unfold eqD
  simp only [toPy, PyData.eqv]
  rfl
theorem eqD_int (s t : Int) : eqD (.int s) (.int t) = decide (s = t) := by
  unfold eqD
  simp only [toPy, PyData.eqv]
  rfl
theorem eqD_bl (s t : Bool) : eqD (.bl s) (.bl t) = (s == t) := by
  unfold eqD
  simp only [toPy, PyData.eqv]
theorem eqO_str {s t : Str} (h1 : okS s = true) (h2 : okS t = true) : eqO (.str s) (.str t) = .ok (.bl (decide (s = t))) := by
  unfold eqO
  rw [if_pos ⟨cmp_str h1, cmp_str h2⟩, eqD_str]
theorem eqO_int (s t : Int) : eqO (.int s) (.int t) = .ok (.bl (decide (s = t))) := by
  unfold eqO
  rw [if_pos ⟨cmp_int s, cmp_int t⟩, eqD_int]
theorem eqO_bl (s t : Bool) : eqO (.bl s) (.bl t) = .ok (.bl (s == t)) := by
  unfold eqO
  rw [if_pos ⟨cmp_bl s, cmp_bl t⟩, eqD_bl]
theorem neO_str {s t : Str} (h1 : okS s = true) (h2 : okS t = true) : neO (.str s) (.str t) = .ok (.bl (!decide (s = t))) := by
  unfold neO
  rw [if_pos ⟨cmp_str h1, cmp_str h2⟩, eqD_str]
theorem neO_int (s t : Int) : neO (.int s) (.int t) = .ok (.bl (!decide (s = t))) := by
  unfold neO
  rw [if_pos ⟨cmp_int s, cmp_int t⟩, eqD_int]
theorem canLay_ints : ∀ ns : List Int, PyData.canLayAll0 (ns.map .int) = true
  | [] => by simp [PyData.canLayAll0]
  | n :: ns => by simp [PyData.canLayAll0, PyData.canLay0, canLay_ints ns]
theorem depth_ints : ∀ ns : List Int, PyData.depthAll (ns.map .int) ≤ 1
  | [] => by simp [PyData.depthAll]
  | n :: ns => by
    have := depth_ints ns
    simp [PyData.depthAll, PyData.depth] at this ⊢
    try omega
theorem cmp_scr (ns : List Int) : cmpOk (.scr ns) = true := by
  unfold cmpOk
  rw [show plain (.scr ns) = true from rfl, Bool.true_and]
  have := depth_ints ns
  exact shaped_flat (by simp [toPy, PyData.canLay0, canLay_ints]) (by simp [toPy, PyData.depth]; omega)
theorem cmp_nil : cmpOk (.lst []) = true := by decide +kernel
theorem eqO_scr (ns : List Int) : eqO (.scr ns) (.lst []) = .ok (.bl ns.isEmpty) := by
  unfold eqO
  rw [if_pos ⟨cmp_scr ns, cmp_nil⟩]
  cases ns <;> simp [eqD, toPy, PyData.eqv, PyData.eqvAll, toPys, List.isEmpty]
theorem le_line {n : Nat} (h : n ≤ 1000000) : n ≤ sizeLine := Nat.le_trans h (by decide)
theorem pick_str (L : Str) (m : Int) (hl : L.length ≤ 1000000) (h0 : 0 < m) (hm : m ≤ L.length) (z : Int) : ∃ c, strGet L (z % m) = .ok (.str ⟨#[c]⟩) ∧ c ∈ L.cps.toList := by
  have a0 := Int.emod_nonneg z (show m ≠ 0 by omega)
  have a1 := Int.emod_lt_of_pos z h0
  generalize z % m = i at a0 a1
  obtain ⟨i, rfl⟩ := Int.eq_ofNat_of_zero_le a0
  obtain ⟨c, h1, h2⟩ := @strGet_of L i (le_line hl) (by omega)
  exact ⟨c, h2, List.mem_of_getElem? h1⟩
theorem pick_seq (ds : List D) (m : Int) (h0 : 0 < m) (hm : m ≤ ds.length) (z : Int) : ∃ d, seqGet ds (z % m) = .ok d ∧ d ∈ ds := by
  have a0 := Int.emod_nonneg z (show m ≠ 0 by omega)
  have a1 := Int.emod_lt_of_pos z h0
  generalize z % m = i at a0 a1
  obtain ⟨i, rfl⟩ := Int.eq_ofNat_of_zero_le a0
  have hi : i < ds.length := by omega
  exact ⟨ds[i], seqGet_of (List.getElem?_eq_getElem hi), List.getElem_mem hi⟩
theorem str_sing (c : Nat) : Str.length ⟨#[c]⟩ = 1 := rfl
end VL

set_option maxRecDepth 100000
set_option maxHeartbeats 2000000
namespace VL
open PySem L2
section
variable {γ : D → Env → Option Env} {τ : Env → Res Bool} {φ : Env → Res D} {env : Env} {ι : Env → Res (List D)} {vs : List Nat}
theorem compL_fil (p : D → Bool) (f : D → D) : ∀ (ds acc : List D), (∀ d ∈ ds, ∃ e1, γ d env = some e1 ∧ τ e1 = .ok (p d) ∧ (p d = true → φ e1 = .ok (f d))) → acc.length + ds.length ≤ sizeLine →
    compL γ τ φ env ds acc = .ok (.lst (acc ++ (ds.filter p).map f))
  | [], acc, _, _ => by simp [compL]
  | d :: ds, acc, h, hl => by
    obtain ⟨e1, h1, h2, h3⟩ := h d (List.mem_cons_self ..)
    rw [List.length_cons] at hl
    unfold compL
    rw [h1]
    simp only []
    rw [h2]
    cases q : p d with
    | true =>
      simp only [h3 q]
      rw [if_pos (by omega), compL_fil p f ds (acc ++ [f d]) (fun d hd => h d (List.mem_cons_of_mem _ hd)) (by simp; omega), List.filter_cons_of_pos q]
      simp
    | false =>
      simp only []
      rw [compL_fil p f ds acc (fun d hd => h d (List.mem_cons_of_mem _ hd)) (by omega), List.filter_cons_of_neg (by simp [q])]
theorem lcE_fil (p : D → Bool) (f : D → D) {ds : List D} (hi : ι env = .ok ds) (hl : ds.length ≤ sizeLine) (h : ∀ d ∈ ds, ∃ e1, γ d (wipeE env vs) = some e1 ∧ τ e1 = .ok (p d) ∧ (p d = true → φ e1 = .ok (f d))) :
    lcE vs γ ι τ φ env = .ok (.lst ((ds.filter p).map f)) := by
  unfold lcE
  rw [hi]
  exact (compL_fil p f ds [] h (by simpa using hl)).trans (by rw [List.nil_append])
theorem compL_ex (p : D → Prop) : ∀ (ds acc : List D), (∀ d ∈ ds, ∃ e1, γ d env = some e1 ∧ ∃ y, φ e1 = .ok y ∧ p y) → acc.length + ds.length ≤ sizeLine →
    ∃ ys, compL γ yesT φ env ds acc = .ok (.lst (acc ++ ys)) ∧ ys.length = ds.length ∧ ∀ y ∈ ys, p y
  | [], acc, _, _ => ⟨[], by simp [compL], rfl, by simp⟩
  | d :: ds, acc, h, hl => by
    obtain ⟨e1, h1, y, h2, h3⟩ := h d (List.mem_cons_self ..)
    rw [List.length_cons] at hl
    obtain ⟨ys, k1, k2, k3⟩ := compL_ex p ds (acc ++ [y]) (fun d hd => h d (List.mem_cons_of_mem _ hd)) (by simp; omega)
    refine ⟨y :: ys, ?_, by rw [List.length_cons, List.length_cons, k2], fun z hz => ?_⟩
    · unfold compL
      rw [h1]
      simp only [yesT]
      simp only [h2]
      rw [if_pos (by omega), k1]
      simp
    · rcases List.mem_cons.mp hz with rfl | hz
      · exact h3
      · exact k3 z hz
theorem lcE_ex (p : D → Prop) {ds : List D} (hi : ι env = .ok ds) (hl : ds.length ≤ sizeLine) (h : ∀ d ∈ ds, ∃ e1, γ d (wipeE env vs) = some e1 ∧ ∃ y, φ e1 = .ok y ∧ p y) :
    ∃ ys, lcE vs γ ι yesT φ env = .ok (.lst ys) ∧ ys.length = ds.length ∧ ∀ y ∈ ys, p y := by
  unfold lcE
  rw [hi]
  obtain ⟨ys, h1, h2, h3⟩ := compL_ex (env := wipeE env vs) p ds [] h (by simpa using hl)
  exact ⟨ys, h1, h2, h3⟩
end
theorem strsOf_map : ∀ l : List Str, strsOf (l.map .str) = some l
  | [] => rfl
  | s :: l => by
    rw [List.map_cons]
    show (strsOf (l.map .str)).map _ = _
    rw [strsOf_map l]; rfl
theorem sum_le (l : List Str) (k : Nat) (h : ∀ s ∈ l, s.length ≤ k) : (l.map (·.length)).sum ≤ l.length * k := by
  induction l with
  | nil => simp
  | cons s l ih =>
    have h1 := h s (List.mem_cons_self ..)
    have h2 := ih fun s hs => h s (List.mem_cons_of_mem _ hs)
    rw [List.map_cons, List.sum_cons, List.length_cons, Nat.succ_mul]
    omega
theorem join_of (a : Str) (l : List Str) (h : (l.map (·.length)).sum + l.length * a.length ≤ 16777216) : joinD a (.lst (l.map .str)) = .ok (.str (Txt.join a l)) := by
  show joinS a _ = _
  unfold joinS
  rw [strsOf_map]
  exact if_pos h
theorem joinL_nil : ∀ l : List (List Nat), TL.joinL [] l = l.flatten
  | [] => rfl
  | [p] => by simp [TL.joinL]
  | p :: q :: r => by
    show p ++ ([] ++ TL.joinL [] (q :: r)) = _
    rw [joinL_nil (q :: r)]
    simp
theorem tl_join0 (l : List Str) : (Txt.join (Str.ofString "") l).cps.toList = (l.map fun s => s.cps.toList).flatten := by
  have h : TL.tl (Txt.join (Str.ofString "") l) = TL.joinL (TL.tl (Str.ofString "")) (l.map TL.tl) := by rw [TL.join_eq, TL.tl_join]
  have h2 : TL.tl (Str.ofString "") = [] := by decide +kernel
  rw [h2, joinL_nil] at h
  exact h
end VL

set_option maxRecDepth 100000
set_option maxHeartbeats 2000000
namespace VL
open PySem L2
section
variable {X : Cx} {W : WX} {fl fla : Bool} {e a : Expr} {st : Stmt} {sts : List Stmt} {pos : Pos} {φ : Env → Res VL.D}
def negD : VL.D → Res VL.D
  | .int i => .ok (.int (-i))
  | _ => .bad
def negE (φ : Env → Res VL.D) (env : Env) : Res VL.D := (φ env).bind negD
theorem ve_neg (h : VE X W fla a φ) : VE X W fl (.UnaryOp .USub a pos) (negE φ) := by
  obtain ⟨t, p, r⟩ := h
  refine ⟨_, pe_un un_neg p, fun H0 M0 M H σ env Q g h => ?_⟩
  refine r H0 M0 M H σ env _ g (PostE.seq h fun d v H1 e1 r1 h1 => ?_)
  cases d with
  | int k => cases r1; exact ⟨k, rfl, h1 _ H1 (Ext.refl _) (.int _)⟩
  | _ => exact h1.elim
theorem negE_eq {env : Env} : negE φ env = r1 negD (φ env) := rfl
theorem neg_int {i : Int} : negD (.int i) = .ok (.int (-i)) := rfl
end
end VL

set_option maxRecDepth 100000
set_option maxHeartbeats 2000000
namespace VL
open PySem L2
section
variable {X : Cx} {W : WX} {fl fla : Bool} {e a : Expr} {es : List Expr} {st : Stmt} {sts : List Stmt} {pos : Pos} {φ : Env → Res VL.D} {φs : Env → Res (List VL.D)}
def retOS (i : Nat) (env : Env) : SRes := match env[i]? with
  | some (.ow d) => .ro d
  | _ => .bad
theorem OwOk.vex {mg : Gm} {M M' : Addr → Bool} {H : Hp} {p : Addr} (le : VEx (Sh M (vw H)) (Sh M' (vw H))) : ∀ {d : VL.D}, OwOk mg M H p d → OwOk mg M' H p d := by
  intro d h
  match d, h with
  | .lst ds, ⟨xs, h, r⟩ => exact ⟨xs, h, r.mono le⟩
  | .dic 0 es, ⟨kvs, h, k, r⟩ => exact ⟨kvs, h, k, r.mono le⟩
  | .dic 1 es, ⟨kvs, h, k, r⟩ => exact ⟨kvs, h, k, r.mono le⟩
  | .dic (_ + 2) _, h => exact h.elim
  | .ins c gs, ⟨C, dx, fs, mm, h, k, r⟩ => exact ⟨C, dx, fs, mm, h, k, r.mono le⟩
  | .non, h => exact h.elim
  | .bl _, h => exact h.elim
  | .int _, h => exact h.elim
  | .str _, h => exact h.elim
  | .tup _, h => exact h.elim
  | .scr _, h => exact h.elim
  | .exn _ _, h => exact h.elim
  | .sel x c gs, ⟨q, C, dx, fs, mm, h, k, r⟩ => exact ⟨q, C, dx, fs, mm, h, k, r.mono le⟩
theorem vs_retO (i : Nat) {x : Str} {px : Pos} (hN : X.N[i]? = some x := by rfl) (hv : Vis X.env.scope x := by first | exact Or.inl rfl | exact Or.inr (Or.inl rfl) | exact Or.inr (Or.inr rfl))
    (hd : (x == ("__debug__" : Str)) = false := by decide) (hcd : (x == ("__classdict__" : Str)) = false := by decide) : VS X W (.Return (some (.Name x px)) pos) (retOS i) := by
  refine ⟨_, ps_ret (pe_var hN hv hd hcd), fun H0 M0 M H σ env D g h => ?_⟩
  unfold retOS at h
  cases q : env[i]? with
  | none => rw [q] at h; exact h.elim
  | some s =>
    rw [q] at h
    cases s with
    | no => exact h.elim
    | sh d => exact h.elim
    | ow d =>
      obtain ⟨p, hv', mp, m0, ho⟩ := g.sl i _ q
      refine ⟨_, hv', ?_⟩
      have h0 : H0 p = none := (g.new p mp).resolve_left (by rw [m0]; exact Bool.false_ne_true)
      refine h p H g.ex h0 (ho.vex fun a u hu => ?_)
      obtain ⟨h1, h2⟩ := Sh_some hu
      rw [Sh_of]
      · exact h2
      · unfold addM
        have : M0 a = false := by
          cases z : M0 a with
          | false => rfl
          | true => rw [g.sub a z] at h1; cases h1
        rw [this]
        refine decide_eq_false fun e => ?_
        rw [e, mp] at h1
        cases h1
def retFS (φ : Env → Res VL.D) (env : Env) : SRes := ofE (φ env) env fun d => .ro d
def outO : SRes → Res VL.D
  | .ro d => .ok d
  | .xc c fs _ => .exc c fs
  | _ => .bad
def PostO (mg : Gm) (M : Addr → Bool) (H : Hp) (Q : VK) (E : XK) : Res VL.D → Prop
  | .ok d => ∀ p H', Ext H H' → H p = none → OwOk mg (addM M p) H' p d → Q (.ref p) H'
  | .exc c fs => ∀ cls dd H', Ext H H' → RpX mg (Sh M (vw H')) c fs cls dd → E cls dd H'
  | .bad => False
def spO (mg : Gm) (n : Nat) (F : List VL.D → Res VL.D) : Sp := fun vs H Q E => vs.length = n ∧ ∃ (M : Addr → Bool) (ds : List VL.D), MOk M H ∧ RpL mg (Sh M (vw H)) ds vs ∧ PostO mg M H Q E (F ds)
end
structure DefOkO (P : Program) (w : World) (K : PySem.W.Frag) (mg : Str → Option Value) (base : Heap) (x : Str) (k : Nat) (ps : List Str) (n : Nat) (F : List D → Res D) : Prop where
  ex : ∃ (f : Addr) (fd : FuncData), mg x = some (.ref f) ∧ PySem.W.keepIn K (.ref f) = true ∧ Binds K fd ps [] ∧ FnOk P w K mg base (L2N.CX P w) k f fd ps (spO ⟨P, w, K, mg⟩ n F)
section
variable {P : Program} {w : World} {K : PySem.W.Frag} {mg : Str → Option Value} {base : Heap} {x qual : Str} {st : Stmt} {N ps : List Str} {k n : Nat} {ψ : Env → SRes} {F G : List D → Res D}
variable {X : Cx} {W : WX} {fl : Bool} {e : Expr} {es : List Expr} {pos p : Pos} {φs : Env → Res (List D)}
end
end VL

set_option maxRecDepth 100000
set_option maxHeartbeats 2000000
namespace VL
open PySem L2
section
variable {X : Cx} {W : WX} {fl fla flb : Bool} {e a b value : Expr} {es : List Expr} {st : Stmt} {sts body orelse : List Stmt} {pos pos' : Pos} {φ φa φb : Env → Res VL.D} {φs : Env → Res (List VL.D)} {ψ : Env → SRes}
def inX (d e : VL.D) : Res VL.D := match e with
  | .dic t es => if keyFit t d = true then .ok (.bl (lookD es d).isSome) else .bad
  | e => inD d e
def notInX (d e : VL.D) : Res VL.D := match e with
  | .dic t es => if keyFit t d = true then .ok (.bl (!(lookD es d).isSome)) else .bad
  | e => notInD d e
def setD (es : List (VL.D × VL.D)) (k v : VL.D) : List (VL.D × VL.D) := if (es.any fun p => eqK p.1 k) = true then es.map (fun p => if eqK p.1 k = true then (p.1, v) else p) else es ++ [(k, v)]
def putS (i : Nat) (φk φv : Env → Res VL.D) (env : Env) : SRes := match env[i]? with
  | some (.ow (.dic t es)) => ofE (φv env) env fun d => ofE (φk env) env fun k => if keyFit t k = true ∧ es.length < sizeLine then .nx (env.set i (.ow (.dic t (setD es k d)))) else .bad
  | _ => .bad
end
end VL

set_option maxRecDepth 100000
set_option maxHeartbeats 2000000
namespace VL
open PySem L2
section
variable {mg : Gm} {H0 H : Hp} {M0 M : Addr → Bool} {σ : L2.St} {env : Env}
end
section
variable {X : Cx} {W : WX} {tg elt : Expr} {ifs : List Expr} {scope : Scope} {own : List (Str × Nat)} {pos : Pos} {γ : D → Env → Option Env} {τ : Env → Res Bool} {φ : Env → Res D}
end
end VL

set_option maxRecDepth 100000
set_option maxHeartbeats 2000000
namespace VL
open PySem L2
theorem rpl_strs {mg : Gm} {G : Vw} : ∀ l : List Str, RpL mg G (l.map .str) (l.map V.str)
  | [] => .nil
  | s :: l => .cons (.str s) (rpl_strs l)
section
variable {X : Cx} {W : WX} {fl fla flb : Bool} {e : Expr} {es : List Expr} {pos : Pos} {φs : Env → Res (List D)}
def strF : List D → Res D
  | [.str s] => .ok (.str s)
  | _ => .bad
def ltX : D → D → Res D
  | .str s, .str t => .ok (.bl (decide (s.cps.toList < t.cps.toList)))
  | d, e => ltD d e
end
end VL

set_option maxRecDepth 100000
set_option maxHeartbeats 2000000
namespace VL
open PySem L2
theorem ofE_ok {d : D} {env : Env} {k : D → SRes} : ofE (.ok d) env k = k d := rfl
theorem Sat_ro {P : Post} {d : D} : Sat P (.ro d) = P.ro d := rfl
theorem thn_ro {P : Post} {χ : Env → SRes} {d : D} : (P.thn χ).ro d = P.ro d := rfl
theorem lp_ro {P : Post} {I : Env → Prop} {d : D} : (P.lp I).ro d = P.ro d := rfl
theorem ltX_int {i j : Int} : ltX (.int i) (.int j) = .ok (.bl (decide (i < j))) := rfl
theorem ltX_str {s t : Str} : ltX (.str s) (.str t) = .ok (.bl (decide (s.cps.toList < t.cps.toList))) := rfl
theorem str_str {s : Str} : strF [.str s] = .ok (.str s) := rfl
theorem inX_str {d : D} {z : Str} : inX d (.str z) = inD d (.str z) := rfl
theorem notInX_str {d : D} {z : Str} : notInX d (.str z) = notInD d (.str z) := rfl
theorem list_lst {ds : List D} : listF [.lst ds] = .ok (.lst ds) := rfl
theorem list_tup {ds : List D} : listF [.tup ds] = .ok (.lst ds) := rfl
end VL

set_option maxRecDepth 100000
set_option maxHeartbeats 2000000
set_option autoImplicit false
namespace VL
open PySem L2
section
variable {X : Cx} {pins : List (Addr × Obj)} {σ : L2.St} {H : Hp} {sI s s' : Shared} {B : Heap} {a : Addr} {oe : Obj}
abbrev hEx (H : Hp) (a : Addr) (oe : Obj) : Hp := upd H a (.frz oe (.own a))
theorem caught_inv (I : Inv X pins σ H sI) (nb : ∀ b o, sI.heap.get? b = some o → b ∉ frs X.stack → B.get? b = some o) (st : B.StaysIn s'.heap) (up : sI.heap.UpToSlots s'.heap)
    (os : s'.os = sI.os) (ag : PyProof.Rows.AllBare s'.gens) (na : H a = none) (he : s'.heap.get? a = some oe) (hB : B.get? a = none) (nfr : a ∉ frs X.stack) : Inv X pins σ (hEx H a oe) s' := by
  have ne : ∀ {b : Addr} {o : Obj}, sI.heap.get? b = some o → b ≠ a := fun {b o} e z => by
    subst z
    have q := nb _ o e nfr
    rw [hB] at q
    cases q
  have nf : ∀ (b : Addr) (hb : b ∈ frs X.stack) (o : Obj) (e : sI.heap.get? b = some o), ∃ sl, s'.heap.get? b = some { o with slots := sl } := fun b hb o e => by
    obtain ⟨_, o', e', hd⟩ := I.stack.mem hb
    rw [e] at e'
    cases e'
    exact up b o e hd
  have ok0 : HOk X.prog X.w H s'.heap := (I.inGround nb).kept st
  have ok1 : HOk X.prog X.w (hEx H a oe) s'.heap := fun b o q => by
    by_cases e : b = a
    · subst e
      rw [show hEx H b oe b = _ from upd_same] at q
      cases q
      exact ⟨he, ⟨oe, he⟩⟩
    · rw [show hEx H a oe b = _ from upd_ne e] at q
      exact (ok0 b o q).stay (fun _ _ _ r => r) (fun c r => (upd_ne (ne_of_none r na)).trans r) (fun c xs r => (upd_ne (ne_of_none r na)).trans r)
  have J := I.call (ch := []) (h' := s'.heap) (g' := s'.gens) (t' := s'.toks) (d' := s'.drawn) (H' := hEx H a oe)
    ⟨fun b o e _ hb _ => st b o (nb b o e hb), fun b o e _ hb _ => nf b hb o e, fun b o e n _ => (upd_ne (ne e)).trans n, fun b o e _ => by
      by_cases hb : b ∈ frs X.stack
      · obtain ⟨sl, q⟩ := nf b hb o e; exact ⟨_, q⟩
      · exact ⟨o, st b o (nb b o e hb)⟩, fun b xs e => (upd_ne (ne_of_none e na)).trans e, fun b o u e => (upd_ne (ne_of_none e na)).trans e, fun b ps e => ⟨#[], by rw [show hEx H a oe b = _ from upd_ne (ne_of_none e na), e]; simp⟩⟩ ok1 ag (fun _ z => nomatch z)
  obtain ⟨a1, a2, a3, a4, a5⟩ := s'
  have e5 : a5 = sI.os := os
  subst e5
  exact J
theorem into_suite (I : Inv X pins σ H s) (a : Addr) : Inv (X.suite a (X.pn ++ pins)) [] σ H s :=
  ⟨I.ok.suite _ _, I.os, I.bare, I.base, I.loc, I.cell, I.free, I.freeC, fun p hp => by rw [List.append_nil] at hp; exact I.pin p hp, I.hok, I.len⟩
theorem out_suite {pn' : List (Addr × Obj)} (I : Inv (X.suite a (X.pn ++ pins)) pn' σ H s) (ok : X.Ok) : Inv X pins σ H s :=
  ⟨ok, I.os, I.bare, I.base, I.loc, I.cell, I.free, I.freeC, fun p hp => I.pin p (List.mem_append_left pn' hp), I.hok, I.len⟩
end
abbrev TSx := Addr → Obj → Value → Option Addr → TS
inductive Hds (Zp : Value → Option Addr → Obj → Prop) (X : Cx) : List ExceptHandler → List (Value × Option Nat × TSx) → Prop
  | nil : Hds Zp X [] []
  | named {x n : Str} {c : Value} {i : Nat} {ts : TSx} {st1 : Stmt} {sts : List Stmt} {np hp : Pos} {hds : List ExceptHandler} {l : List (Value × Option Nat × TSx)} (hc : Names X x c) (hi : X.N[i]? = some n) (hln : X.env.kindOf n = some .local)
      (hsu : ∀ (a : Addr) (oe : Obj) (cls : Value) (d : Option Addr) (pn : List (Addr × Obj)), Zp cls d oe → (∃ vs, oe.data = .fields vs) → PSs (X.suite a pn) (st1 :: sts) (ts a oe cls d)) (r : Hds Zp X hds l) :
      Hds Zp X (.ExceptHandler (some (.Name x np)) (some n) (st1 :: sts) hp :: hds) ((c, some i, ts) :: l)
  | anon {x : Str} {c : Value} {ts : TSx} {st1 : Stmt} {sts : List Stmt} {np hp : Pos} {hds : List ExceptHandler} {l : List (Value × Option Nat × TSx)} (hc : Names X x c)
      (hsu : ∀ (a : Addr) (oe : Obj) (cls : Value) (d : Option Addr) (pn : List (Addr × Obj)), Zp cls d oe → (∃ vs, oe.data = .fields vs) → PSs (X.suite a pn) (st1 :: sts) (ts a oe cls d)) (r : Hds Zp X hds l) :
      Hds Zp X (.ExceptHandler (some (.Name x np)) none (st1 :: sts) hp :: hds) ((c, none, ts) :: l)
def unD : Option Nat → Ends → Ends
  | none, D => D
  | some i, D => { nx := fun σ H => D.nx (σ.set i none) H, rt := D.rt, bk := fun σ H => D.bk (σ.set i none) H, ct := fun σ H => D.ct (σ.set i none) H }
def inS (on : Option Nat) (a : Addr) (σ : L2.St) : L2.St := match on with
  | none => σ
  | some i => σ.set i (some (.ref a))
def wHs (Zp : Value → Option Addr → Obj → Prop) (K : PySem.W.Frag) (Wout : WX) (D : Ends) : List (Value × Option Nat × TSx) → WX
  | [] => Wout
  | (c, on, ts) :: l => fun cls d σ H => ∃ b, PySem.W.exmOne K cls c = some b ∧ (b = true → ∀ a oe, H a = none → Zp cls d oe → (∃ vs, oe.data = .fields vs) → ts a oe cls d (unD on D) (inS on a σ) (hEx H a oe)) ∧ (b = false → wHs Zp K Wout D l cls d σ H)
section
variable {X : Cx} {body : List Stmt} {h1 : ExceptHandler} {hds : List ExceptHandler} {l : List (Value × Option Nat × TSx)} {pos : Pos} {tb : WX → TS} {Wout : WX}
theorem ps_tryL (hs : X.stack = X.env :: X.outer) (hf : X.env.frame = some X.env.locals) (hN : X.N.Nodup) (tk : L2.Takes X Wout)
    (hb : ∀ (W : WX) (pn : List (Addr × Obj)) (xe : Value → Shared → Prop), L2.Takes (X.tr pn xe) W → PassesOwn (model X.prog X.w) X.A X.env xe → PSs (X.tr pn xe) body (tb W))
    (hh : Hds Zc X (h1 :: hds) l) : PS X (.Try body (h1 :: hds) [] [] pos) (fun D σ H => tb (wHs Zc X.K Wout D l) D σ H) := by
  refine ⟨fun pins s σ H D I h => ?_⟩
  have ok := I.ok
  have hfr : X.A.frames = some (X.env :: X.outer) := ok.frames.trans (congrArg some hs)
  refine wpAny_Try_except (wpAny_mono ((hb (wHs Zc X.K Wout D l) (X.pn ++ pins) _ (fun u s' air => ?_) PassesOwn.looking).run [] s σ H D (I.toTry _) h) (fun f s1 q => ?_) fun _ _ z => z)
  rotate_left
  · match f, q with
    | .next, ⟨σ1, H1, J, q⟩ => exact wpAny_execs_nil ⟨σ1, H1, J.ofTry ok, q⟩
    | .brk, ⟨σ1, H1, J, q⟩ => exact ⟨σ1, H1, J.ofTry ok, q⟩
    | .cont, ⟨σ1, H1, J, q⟩ => exact ⟨σ1, H1, J.ofTry ok, q⟩
    | .ret u, ⟨v, σ1, H1, J, r, q⟩ => exact ⟨v, σ1, H1, J.ofTry ok, r, q⟩
  obtain ⟨a, B, sI, pins2, σ2, H2, cls, d, rfl, J2, nb, up, sky, na, os, ag, w⟩ := air
  have J : Inv X pins σ2 H2 sI := J2.ofTry ok
  have skyE : Sky B (X.env :: X.outer) a (Zc cls d) X.env.locals s'.heap := by rw [← hs]; exact sky
  refine L2.Sky.land Zc.steady hfr hf skyE fun g3 fly up3 => ?_
  have J3 : Inv X pins σ2 H2 { s' with heap := g3 } := J.landed nb fly.1 (up.trans up3) os ag
  obtain ⟨o3, f3, at3, z3, dt3⟩ := fly.there
  have nfr : a ∉ frs X.stack := fun hm => by
    obtain ⟨_, o', e', hnf⟩ := fly.2.2.1.mem (show a ∈ frs (X.env :: X.outer) by rw [← hs]; exact hm)
    rw [at3] at e'
    cases e'
    exact hnf _ dt3
  have S3 := into_suite (caught_inv (s' := { s' with heap := g3 }) J nb fly.1 (up.trans up3) os ag na at3 fly.2.1 nfr) a
  have look : ∀ {x : Str} {np : Pos} {c : Value} {Q : Value → Shared → Prop} {E : Value → Shared → Prop}, Names X x c → Q c { s' with heap := g3 } → wpAny (model X.prog X.w) (X.A.mark (some (.ref a))) (eval (.Name x np) X.env) Q E { s' with heap := g3 } := fun {x np c Q E} hn q => by
    rcases hn with ⟨hg, hdb, hm | ⟨hm, hv, hnn⟩⟩
    · exact ld_glob S3 hg hm q hdb
    · exact ld_blt S3 hg hm hv q hnn hdb
  have LT : PySem.W.Looks (model X.prog X.w) g3 (typeOf (.ref a)) cls := fun A Q E s4 k4 q => wpAny_typeOf_ref (k4 _ _ at3) (by rw [z3.1]; exact q)
  have flyOn : Wout cls d σ2 H2 → wpAny (model X.prog X.w) X.A (handleBy (.ref a) X.env []) (SP X pins D) X.xe { s' with heap := g3 } := fun w0 => by
    refine wpAny_handleBy_nil ?_
    obtain ⟨_, _, _, o4, v4, T, _, _, at4, _, dt4, i1, _⟩ := id fly
    unfold PySem.passOn
    refine wpAny_bind (wpAny_field at4 dt4 i1 ?_)
    rw [if_neg (show ¬ ((Value.ref T == Value.none) = true) by simp)]
    have fin : wpAny (model X.prog X.w) X.A (setFlight (.ref a) X.env.frame) (fun _ s4 => wpAny (model X.prog X.w) X.A (throw (.ref a) : Sem Flow) (SP X pins D) X.xe s4) X.xe { s' with heap := g3 } := by
      rw [hf]
      exact HandSPX.setFlight_upZ fly fun g4 held up4 => wpAny_throw (tk _ _ ⟨a, B, sI, pins, σ2, H2, cls, d, rfl, J, nb, (up.trans up3).trans up4, .inr (.inr (by rw [hs]; exact held)), na, os, ag, w0⟩)
    first
      | exact wpAny_bind (wpAny_pure (wpAny_bind fin))
      | exact wpAny_bind fin
  have go : ∀ {hs' : List ExceptHandler} {l' : List (Value × Option Nat × TSx)}, Hds Zc X hs' l' → wHs Zc X.K Wout D l' cls d σ2 H2 → wpAny (model X.prog X.w) X.A (handleBy (.ref a) X.env hs') (SP X pins D) X.xe { s' with heap := g3 } := by
    intro hs' l' hk
    induction hk with
    | nil => exact flyOn
    | @named x n c i ts st1 sts np hp hds2 l2 hc hi hln hsu r ih =>
      rintro ⟨b, hb1, hyes, hno⟩
      refine wpAny_handleBy_cons (codeAny_handlers_test (look hc ((PySem.W.exm_one J3.kIn LT hb1).here ?_))) (by intro q; cases q)
      cases b with
      | false => exact ih (hno rfl)
      | true =>
        refine codeAny_handlers_suite_as (HandSPX.lands_againZ fly fun g4 fly4 up4 => ?_)
        obtain ⟨o4, f4, at4, z4, dt4⟩ := fly4.there
        have S4 := into_suite (caught_inv (s' := { s' with heap := g4 }) J nb fly4.1 ((up.trans up3).trans up4) os ag na at4 fly4.2.1 nfr) a
        refine store_ok (X := X.suite a (X.pn ++ pins)) (v := .ref a) S4 hN hi (Or.inl hln) rfl (fun s5 S5 => ?_) (.inr hln)
        refine wpAny_mono ((hsu a o4 cls d (X.pn ++ pins) z4 ⟨f4, dt4⟩).run [] s5 _ _ _ S5 (hyes rfl a o4 na z4 ⟨f4, dt4⟩)) (fun f s6 q => ?_) (fun _ _ z => False.elim z)
        have gone : ∀ {σ6 : L2.St} {H6 : Hp} {Q : Shared → Prop}, Inv (X.suite a (X.pn ++ pins)) [] σ6 H6 s6 → (∀ s7, Inv X pins (σ6.set i none) H6 s7 → Q s7) → wpAny (model X.prog X.w) X.A (do bindName X.env n .none; unbindBehindTheSuite X.env n hp) (fun _ s7 => Q s7) X.xe s6 :=
          fun {σ6 H6 Q} S6 k6 => gone_ok (out_suite S6 ok) hN hi hln k6
        match f, q with
        | .next, ⟨σ6, H6, S6, q6⟩ => exact gone S6 fun s7 J7 => ⟨_, _, J7, q6⟩
        | .brk, ⟨σ6, H6, S6, q6⟩ => exact gone S6 fun s7 J7 => ⟨_, _, J7, q6⟩
        | .cont, ⟨σ6, H6, S6, q6⟩ => exact gone S6 fun s7 J7 => ⟨_, _, J7, q6⟩
        | .ret u, ⟨v6, σ6, H6, S6, r6, q6⟩ => exact gone S6 fun s7 J7 => ⟨_, _, _, J7, r6, q6⟩
    | @anon x c ts st1 sts np hp hds2 l2 hc hsu r ih =>
      rintro ⟨b, hb1, hyes, hno⟩
      refine wpAny_handleBy_cons (codeAny_handlers_test (look hc ((PySem.W.exm_one J3.kIn LT hb1).here ?_))) (by intro q; cases q)
      cases b with
      | false => exact ih (hno rfl)
      | true =>
        refine codeAny_handlers_suite (HandSPX.lands_againZ fly fun g4 fly4 up4 => ?_)
        obtain ⟨o4, f4, at4, z4, dt4⟩ := fly4.there
        have S4 := into_suite (caught_inv (s' := { s' with heap := g4 }) J nb fly4.1 ((up.trans up3).trans up4) os ag na at4 fly4.2.1 nfr) a
        refine wpAny_mono ((hsu a o4 cls d (X.pn ++ pins) z4 ⟨f4, dt4⟩).run [] _ _ _ _ S4 (hyes rfl a o4 na z4 ⟨f4, dt4⟩)) (fun f s6 q => ?_) (fun _ _ z => False.elim z)
        match f, q with
        | .next, ⟨σ6, H6, S6, q6⟩ => exact ⟨_, _, out_suite S6 ok, q6⟩
        | .brk, ⟨σ6, H6, S6, q6⟩ => exact ⟨_, _, out_suite S6 ok, q6⟩
        | .cont, ⟨σ6, H6, S6, q6⟩ => exact ⟨_, _, out_suite S6 ok, q6⟩
        | .ret u, ⟨v6, σ6, H6, S6, r6, q6⟩ => exact ⟨_, _, _, out_suite S6 ok, r6, q6⟩
  exact go hh w
end
section
variable {X : Cx} {body : List Stmt} {h1 : ExceptHandler} {hds : List ExceptHandler} {l : List (Value × Option Nat × TSx)} {pos : Pos} {tb : WX → TS} {Wout : WX}
end
end VL

set_option maxRecDepth 100000
set_option maxHeartbeats 2000000
set_option autoImplicit false
namespace VL
open PySem L2
def spIn (C : Addr) (ns : List Str) : Sp := fun vs H Q _ => ∃ (a : Addr) (us : List V), vs = .ref a :: us ∧ us.length = ns.length ∧ H a = some (exo a C none) ∧
  ∀ dx, H dx = none → dx ≠ a → Q .non (upd (upd H dx (exd dx (ns.zip us).reverse)) a (exo a C (some dx)))
section
variable {P : Program} {w : World} {K : PySem.W.Frag} {mg : Str → Option Value} {base : Heap} {CX : CXT} {qual f1 f2 : Str} {st : Stmt} {f C : Addr} {fd : FuncData} {q1 q2 q3 q4 r1 r2 r3 r4 : Pos}
theorem init_one (F : Fun K "__init__" qual st f fd) (S : FnScope ["self", f1] ["self", f1] (defScope st)) (hb : defBody st = [.Assign [.Attribute (.Name "self" q1) f1 q2] (.Name f1 q3) q4]) (T : OexC K C) (no1 : PySem.W.findIn K (.ref C) f1 = some none)
    (l0 : (defScope st).names.lookup ("self" : Str) = some .local) (l1 : (defScope st).names.lookup f1 = some .local) (hd1 : (f1 == ("__debug__" : Str)) = false) (hc1 : (f1 == ("__classdict__" : Str)) = false) : FnOk P w K mg base CX 1 f fd ["self", f1] (spIn C [f1]) := by
  refine fun_okN F S (fun vs H Q E h => ?_) fun cdv A outer s H vs Q E hr h => ?_
  · obtain ⟨a, us, rfl, hl, _⟩ := h
    rw [List.length_cons, hl]; rfl
  · obtain ⟨a, us, rfl, hl, ha, k⟩ := h
    match us, hl with
    | [y], _ =>
      refine ⟨_, hb ▸ pss_one (ps_ost (pe_var (i := 0) rfl (Or.inl l0)) (pe_var (i := 1) rfl (Or.inl l1) hd1 hc1)), ?_⟩
      exact ⟨y, rfl, _, rfl, a, C, rfl, T, no1, .inl ⟨ha, fun dx h1 h2 => k dx h1 h2⟩⟩
end
theorem pmk_oexN {X : Cx} {CX : CXT} {x : Str} {C fI : Addr} {k : Nat} {fd : FuncData} {ps : List Str} {sp : Sp} {e : Expr} {es : List Expr} {ta : TA} {p pos : Pos} (T : OexC X.K C) (iC : PySem.W.findIn X.K (.ref C) "__init__" = some (some (.ref fI)))
    (tI : PySem.W.typeIn X.K (.ref fI) = some (.type "function")) (FI : FnOk X.prog X.w X.K X.mg X.base CX k fI fd ps sp) (hr : Room (k + 1) X.A) (hb : Binds X.K fd ps []) (hx : Passes CX X (fun _ _ _ => False)) (hg : Gl X x) (hm : X.mg x = some (.ref C)) (ha : PA X (e :: es) ta)
    (hdb : (x == ("__debug__" : Str)) = false := by decide) (he : starEach (e :: es) X.env = (false, eval e X.env) :: starEach es X.env := by rfl) (hpl : (backTo pos (starEach es X.env)).any (·.1) = false := by rfl) :
    L2N.PMk X (.Call (.Name x p) (e :: es) [] pos) (tMkO C sp [] ta) := by
  intro pins s σ H Q I h
  obtain ⟨_, _, _, _, bm, _, _, _, _, _, _, _, _, _, _, hC, hbm⟩ := T.cls
  refine wpAny_Call_Name_kw (ld_glob I hg hm ?_ hdb)
  refine PySem.W.callWith_K (h₀ := X.base) I.ok.mod.kin T.kC (thn (ha.run pos pins s σ H _ I h) fun us s1 ⟨vs, H1, I1, rr, hz, ask⟩ => ⟨I1.kIn, ?_⟩) he hpl
  show wpAny _ _ (call (.ref C) us) _ _ _
  obtain ⟨hp, g, dr, tk, os⟩ := s1
  generalize hn0 : hp.objs.size = n0
  have up1 : hp.objs.size ≤ n0 + 1 := by omega
  have fre : H1 (n0 + 1) = none := I1.hok.fresh up1
  have asked := ask (n0 + 1) fre
  rw [List.append_nil] at asked
  have kept : ∀ b o, hp.get? b = some o → ((hp.push (PySem.W.kdv_tup us)).push (PySem.HandSPX.excO C n0)).get? b = some o := fun b o e2 => Heap.get?_push_of_some _ (Heap.get?_push_of_some _ e2)
  have newOb : ((hp.push (PySem.W.kdv_tup us)).push (PySem.HandSPX.excO C n0)).get? (n0 + 1) = some (PySem.HandSPX.excO C n0) := by subst hn0; heap_get
  have I2 : Inv X pins σ (upd H1 (n0 + 1) (exo (n0 + 1) C none)) ⟨(hp.push (PySem.W.kdv_tup us)).push (PySem.HandSPX.excO C n0), g, dr, tk, os⟩ :=
    I1.laid (t' := tk) (a := n0 + 1) (o := exo (n0 + 1) C none) kept up1 (exo_ok newOb)
  have vals : Vals (V.ref (n0 + 1) :: vs) (Value.ref (n0 + 1) :: us) := .cons rfl rr
  have lens : (Value.ref (n0 + 1) :: us ++ []).length = ps.length := by
    have e2 := vals.length
    rw [FI.len _ _ _ _ asked] at e2
    rw [List.append_nil]
    exact e2.symm
  have few : us.length ≤ sizeLine := by
    have e2 := Paired.length rr
    rw [sizeLine_eq]
    omega
  have bnd := hb _ (Value.ref (n0 + 1) :: us) I2.kIn lens
  rw [List.append_nil] at bnd
  subst hn0
  refine wpAny_call (PySem.HandSPX.call_own F.excBase_ValueError (fun Y => PySem.HandSPX.refsVE_contains Y bm hbm) (I1.kIn _ _ hC) (PySem.W.looks_findIn I1.kIn iC) (fun self => PySem.W.bind_fn I1.kIn self tI) few
    (codeAny_mono (FI.run _ X.stack _ _ ⟨Value.ref (hp.objs.size + 1) :: us, []⟩ _ _ _ (fun _ _ _ => False) (hr.make C us []) (I2.env0.make C us []) bnd vals asked) fun r s2 out => ?_))
  match r, out with
  | .error er, out => exact hx pins σ _ _ er s2 I2 out
  | .ok (.ret u), out =>
    obtain ⟨v, H2, os2, bare2, un2, ok2, rv, rfl, d, fs, ea, ed, hd1, fin⟩ := out
    obtain ⟨h2, g2, d2, t2, os'⟩ := s2
    obtain ⟨t0, G, J, kG, ge, hoe, na⟩ := mk_end0 (d2 := d2) (t2 := t2) I1 up1 kept un2 ok2 os2 bare2 ea ed hd1
    exact ⟨rv, hp.objs.size + 1, _, _, ⟨G, g2, d2, t2, os'⟩, _, .ref C, some d, rfl, J, kG, ge, hoe, ⟨rfl, rfl, fun vs2 hv => by cases hv; rfl⟩, rfl, rfl, na, rfl, bare2, raises_own T.exC T.tyC, fin⟩
  | .ok .next, out => exact False.elim out
  | .ok .brk, out => exact False.elim out
  | .ok .cont, out => exact False.elim out
structure ExI (P : Program) (w : World) (K : PySem.W.Frag) (mg : Str → Option Value) (base : Heap) (x : Str) (ns : List Str) : Prop where
  ex : ∃ (C fI : Addr) (fd : FuncData) (ps : List Str), mg x = some (.ref C) ∧ OexC K C ∧ PySem.W.findIn K (.ref C) "__init__" = some (some (.ref fI)) ∧ PySem.W.typeIn K (.ref fI) = some (.type "function") ∧ Binds K fd ps [] ∧ FnOk P w K mg base (L2N.CX P w) 1 fI fd ps (spIn C ns)
def raise0S (c : Str) (env : Env) : SRes := .xc c [] env
def raiseS (c : Str) (ns : List Str) (φs : Env → Res (List D)) (env : Env) : SRes := ofA (φs env) env fun ds => if ds.length = ns.length then .xc c (ns.zip ds).reverse env else .bad
theorem zip_keys {α : Type} : ∀ {ns : List Str} {ds : List α}, ds.length = ns.length → (ns.zip ds).map (·.1) = ns
  | [], [], _ => rfl
  | n :: ns, d :: ds, h => by rw [List.zip_cons_cons, List.map_cons, zip_keys (by simpa using h)]
  | [], _ :: _, h => by cases h
  | _ :: _, [], h => by cases h
theorem zip_vals {α : Type} : ∀ {ns : List Str} {ds : List α}, ds.length = ns.length → (ns.zip ds).map (·.2) = ds
  | [], [], _ => rfl
  | n :: ns, d :: ds, h => by rw [List.zip_cons_cons, List.map_cons, zip_vals (by simpa using h)]
  | [], _ :: _, h => by cases h
  | _ :: _, [], h => by cases h
theorem RpL.reverse {mg : Gm} {G : Vw} : ∀ {ds : List D} {vs : List V}, RpL mg G ds vs → RpL mg G ds.reverse vs.reverse
  | _, _, .nil => .nil
  | _, _, .cons r t => by
    rw [List.reverse_cons, List.reverse_cons]
    exact (RpL.reverse t).append (.cons r .nil)
section
variable {X : Cx} {W : WX} {x m : Str} {j : Nat} {p p2 pos pos2 : Pos} {e : Expr} {es : List Expr} {φs : Env → Res (List VL.D)} {C : Addr} {bmB : List Value} {B newId initId : String}
theorem vs_raise {ns : List Str} (hc : X.calm = true) (tk : L2N.Takes X W) (hr : Room 2 X.A) (hE : ExI X.prog X.w X.K X.mg X.base x ns) (ha : VA X W true (e :: es) φs) (hl : ns.length ≤ 900) (hg : Gl X x := by rfl) (hdb : (x == ("__debug__" : Str)) = false := by decide)
    (he : starEach (e :: es) X.env = (false, eval e X.env) :: starEach es X.env := by rfl) (hpl : (backTo pos (starEach es X.env)).any (·.1) = false := by rfl) :
    VS X W (.Raise (some (.Call (.Name x p) (e :: es) [] pos)) none pos2) (raiseS x ns φs) := by
  obtain ⟨C, fI, fd, ps, hm, T, iC, tI, hb, FI⟩ := hE.ex
  obtain ⟨t, pt, r⟩ := ha
  refine ⟨_, L2N.ps_raise hc tk (pmk_oexN T iC tI FI hr hb (fun pins σ H s e s' I c => tk e s' (L2N.XE.of_call I (fun _ _ _ h => h.elim) c)) hg hm pt hdb he hpl), fun H0 M0 M H σ env D g h => ?_⟩
  refine r H0 M0 M H σ env _ g ?_
  unfold raiseS at h
  cases q : φs env with
  | bad => rw [q] at h; exact h
  | exc c fs => rw [q] at h; exact fun cls dd H1 e1 r1 => h M H1 σ cls dd (g.mono e1) (Sh_mono e1.v) r1
  | ok ds =>
    rw [q] at h
    intro vs H1 e1 r1
    have h1 : PostS X W H0 M0 M H D (if ds.length = ns.length then SRes.xc x (ns.zip ds).reverse env else .bad) := h
    obtain ⟨hn, h2⟩ := PostS.ite h1
    have hvn : vs.length = ns.length := by rw [← r1.length]; exact hn
    refine ⟨by omega, fun a ha => ⟨a, vs, by rw [List.append_nil], hvn, upd_same, fun dx hdx hne => ⟨rfl, dx, (ns.zip vs).reverse, upd_same, (upd_ne hne).trans upd_same, ?_, ?_⟩⟩⟩
    · rw [upd_ne hne] at hdx; exact hdx
    · rw [upd_ne hne] at hdx
      have eq : upd (del (upd (upd (upd H1 a (exo a C none)) dx (exd dx (ns.zip vs).reverse)) a (exo a C (some dx))) a) dx (.xd (ns.zip vs).reverse) = upd H1 dx (.xd (ns.zip vs).reverse) := by
        funext b
        by_cases eb : b = dx
        · subst eb; rw [upd_same, upd_same]
        · rw [upd_ne eb, upd_ne eb]
          by_cases ea : b = a
          · subst ea; rw [del_same, ha]
          · rw [del_ne ea, upd_ne ea, upd_ne eb, upd_ne ea]
      rw [eq]
      have ex := Ext.new (o := .xd (ns.zip vs).reverse) hdx
      have g1 := g.mono e1
      refine h2 M _ σ _ (some dx) (g1.mono ex) (Sh_mono (e1.trans ex).v) ⟨hm, .inr ⟨dx, (ns.zip vs).reverse, rfl, ?_, ?_, ?_⟩⟩
      · rw [Sh_of (g1.nm hdx).1]
        exact vw_upd_same trivial
      · rw [List.map_reverse, List.map_reverse, zip_keys hn, zip_keys hvn]
      · rw [List.map_reverse, List.map_reverse, zip_vals hn, zip_vals hvn]
        exact (r1.mono (Sh_mono ex.v)).reverse
end
end VL

set_option maxRecDepth 100000
set_option maxHeartbeats 2000000
set_option autoImplicit false
namespace VL
open PySem L2
abbrev HdD := List (Str × Bool) × Option Nat × (Env → SRes)
def outI : Option Nat → SRes → SRes
  | _, .xc _ _ _ => .bad
  | none, r => r
  | some i, .nx e => .nx (e.set i .no)
  | some i, .bk e => .bk (e.set i .no)
  | some i, .ct e => .ct (e.set i .no)
  | some _, r => r
def inE (on : Option Nat) (c : Str) (fs : List (Str × D)) (env : Env) : Env := match on with
  | none => env
  | some i => env.set i (.sh (.exn c fs))
def hndS (c : Str) (fs : List (Str × D)) : List HdD → Env → SRes
  | [], e => .xc c fs e
  | (cat, on, χ) :: r, e => match cat.lookup c with
    | some true => outI on (χ (inE on c fs e))
    | some false => hndS c fs r e
    | none => .bad
def tryS (ψ : Env → SRes) (hs : List HdD) (env : Env) : SRes := match ψ env with
  | .xc c fs e => hndS c fs hs e
  | r => r
def tVB (X : Cx) (W : WX) (χ : Env → SRes) : TS := fun D σ H => ∃ (H0 : Hp) (M0 M : Addr → Bool) (env : Env), Good (gm X) H0 M0 M H σ env ∧ PostS X W H0 M0 M H D (χ env)
theorem vb_canon {X Y : Cx} {W : WX} {sts : List Stmt} {χ : Env → SRes} (h : VB X W sts χ) (e : gm X = gm Y) : PSs X sts (tVB Y W χ) := by
  obtain ⟨t, p, r⟩ := h
  refine ⟨fun pins s σ H D I ⟨H0, M0, M, env, g, k⟩ => p.run pins s σ H D I (r H0 M0 M H σ env D (by rw [e]; exact g) ?_)⟩
  cases q : χ env <;> rw [q] at k <;> first | exact k | (unfold PostS at k ⊢; rw [e]; exact k)
inductive VHds (X : Cx) : List ExceptHandler → List HdD → Prop
  | nil : VHds X [] []
  | named {x n : Str} {cv : Value} {cat : List (Str × Bool)} {i : Nat} {χ : Env → SRes} {st1 : Stmt} {sts : List Stmt} {np hp : Pos} {hds : List ExceptHandler} {l : List HdD} (hc : Names X x cv)
      (hcat : ∀ c b, cat.lookup c = some b → ∃ C, X.mg c = some C ∧ PySem.W.exmOne X.K C cv = some b) (hi : X.N[i]? = some n) (hln : X.env.kindOf n = some .local) (hs : ∀ (a : Addr) (pn : List (Addr × Obj)), VB (X.suite a pn) W0 (st1 :: sts) χ) (r : VHds X hds l) :
      VHds X (.ExceptHandler (some (.Name x np)) (some n) (st1 :: sts) hp :: hds) ((cat, some i, χ) :: l)
  | anon {x : Str} {cv : Value} {cat : List (Str × Bool)} {χ : Env → SRes} {st1 : Stmt} {sts : List Stmt} {np hp : Pos} {hds : List ExceptHandler} {l : List HdD} (hc : Names X x cv)
      (hcat : ∀ c b, cat.lookup c = some b → ∃ C, X.mg c = some C ∧ PySem.W.exmOne X.K C cv = some b) (hs : ∀ (a : Addr) (pn : List (Addr × Obj)), VB (X.suite a pn) W0 (st1 :: sts) χ) (r : VHds X hds l) :
      VHds X (.ExceptHandler (some (.Name x np)) none (st1 :: sts) hp :: hds) ((cat, none, χ) :: l)
section
variable {X : Cx} {W : WX} {H0 H : Hp} {M0 M : Addr → Bool} {D : Ends}
theorem PostS.outI {on : Option Nat} {r : SRes} (h : PostS X W H0 M0 M H D (outI on r)) : PostS X W0 H0 M0 M H (unD on D) r := by
  cases on with
  | none => cases r <;> first | exact h | exact h.elim
  | some i =>
    cases r with
    | nx e => exact fun M' H' σ' g e' => h M' H' _ (g.no i none) e'
    | bk e => exact fun M' H' σ' g e' => h M' H' _ (g.no i none) e'
    | ct e => exact fun M' H' σ' g e' => h M' H' _ (g.no i none) e'
    | xc c fs e => exact h.elim
    | rt d => exact h
    | bad => exact h
    | ro d => exact h
theorem rp_exn {mg : Gm} {a : Addr} {oe : Obj} {c : Str} {fs : List (Str × VL.D)} {cls : Value} {dd : Option Addr} (na : H a = none) (hm : M a = false) (z : Zc cls dd oe) (hv : ∃ vs, oe.data = .fields vs) (h : RpX mg (Sh M (vw H)) c fs cls dd) :
    Rp mg (Sh M (vw (hEx H a oe))) (.exn c fs) (.ref a) := by
  have at_ : Sh M (vw (hEx H a oe)) a = some (.frz oe (.own a)) := by
    rw [Sh_of hm]
    unfold vw
    rw [show hEx H a oe a = _ from upd_same]
  have le : VEx (Sh M (vw H)) (Sh M (vw (hEx H a oe))) := Sh_mono (Ext.new na).v
  obtain ⟨hc, ⟨rfl, rfl⟩ | ⟨d, vs, rfl, hd, hk, hr⟩⟩ := h
  · exact .exn0 at_ z hv hc
  · exact .exnF at_ z hv hc (le _ _ hd) hk (hr.mono le)
theorem Hds.of {hds : List ExceptHandler} {l : List HdD} (h : VHds X hds l) : ∃ l', Hds L2N.Zn X hds l' ∧ Hds Zc X hds l' ∧
    ∀ (Zp : Value → Option Addr → Obj → Prop) (hZ : ∀ c d o, Zp c d o → Zc c d o) (W : WX) (H0 : Hp) (M0 M : Addr → Bool) (H : Hp) (σ : L2.St) (env : Env) (D : Ends) (c : Str) (fs : List (Str × VL.D)) (cls : Value) (dd : Option Addr), Good (gm X) H0 M0 M H σ env → RpX (gm X) (Sh M (vw H)) c fs cls dd →
      PostS X W H0 M0 M H D (hndS c fs l env) → wHs Zp X.K W D l' cls dd σ H := by
  induction h with
  | nil => exact ⟨[], .nil, .nil, fun Zp hZ W H0 M0 M H σ env D c fs cls dd g rx h => h M H σ cls dd g (.refl _) rx⟩
  | @named x n cv cat i χ st1 sts np hp hds l hc hcat hi hln hs r ih =>
    obtain ⟨l', k1, k2, k3⟩ := ih
    refine ⟨(cv, some i, fun _ _ _ _ => tVB X W0 χ) :: l', .named hc hi hln (fun a oe cls d pn _ _ => vb_canon (Y := X) (hs a pn) rfl) k1, .named hc hi hln (fun a oe cls d pn _ _ => vb_canon (Y := X) (hs a pn) rfl) k2, fun Zp hZ W H0 M0 M H σ env D c fs cls dd g rx h => ?_⟩
    unfold hndS at h
    cases q : cat.lookup c with
    | none => rw [q] at h; exact h.elim
    | some b =>
      obtain ⟨C, e1, e2⟩ := hcat c b q
      have ec : C = cls := by
        have := rx.1.symm.trans e1
        cases this; rfl
      subst ec
      rw [q] at h
      refine ⟨b, e2, fun hb a oe na z hv => ?_, fun hb => ?_⟩
      · subst hb
        have ex := Ext.new (o := .frz oe (.own a)) na
        exact ⟨H0, M0, M, _, (g.mono ex).set (rp_exn na (g.nm na).1 (hZ _ _ _ z) hv rx), PostS.outI (PostS.mono h (Sh_mono ex.v))⟩
      · subst hb
        exact k3 Zp hZ W H0 M0 M H σ env D c fs _ dd g rx h
  | @anon x cv cat χ st1 sts np hp hds l hc hcat hs r ih =>
    obtain ⟨l', k1, k2, k3⟩ := ih
    refine ⟨(cv, none, fun _ _ _ _ => tVB X W0 χ) :: l', .anon hc (fun a oe cls d pn _ _ => vb_canon (Y := X) (hs a pn) rfl) k1, .anon hc (fun a oe cls d pn _ _ => vb_canon (Y := X) (hs a pn) rfl) k2, fun Zp hZ W H0 M0 M H σ env D c fs cls dd g rx h => ?_⟩
    unfold hndS at h
    cases q : cat.lookup c with
    | none => rw [q] at h; exact h.elim
    | some b =>
      obtain ⟨C, e1, e2⟩ := hcat c b q
      have ec : C = cls := by
        have := rx.1.symm.trans e1
        cases this; rfl
      subst ec
      rw [q] at h
      refine ⟨b, e2, fun hb a oe na z hv => ?_, fun hb => ?_⟩
      · subst hb
        have ex := Ext.new (o := .frz oe (.own a)) na
        exact ⟨H0, M0, M, _, g.mono ex, PostS.outI (PostS.mono h (Sh_mono ex.v))⟩
      · subst hb
        exact k3 Zp hZ W H0 M0 M H σ env D c fs _ dd g rx h
end
section
variable {X : Cx} {W : WX} {body : List Stmt} {h1 : ExceptHandler} {hds : List ExceptHandler} {pos : Pos} {ψ : Env → SRes} {l : List HdD}
theorem vs_tryL (tk : L2.Takes X W) (hs : X.stack = X.env :: X.outer) (hf : X.env.frame = some X.env.locals) (hN : X.N.Nodup)
    (hb : ∀ (W : WX) (pn : List (Addr × Obj)) (xe : Value → Shared → Prop), L2.Takes (X.tr pn xe) W → PassesOwn (model X.prog X.w) X.A X.env xe → VB (X.tr pn xe) W body ψ) (hh : VHds X (h1 :: hds) l) : VS X W (.Try body (h1 :: hds) [] [] pos) (tryS ψ l) := by
  obtain ⟨l', _, k2, k3⟩ := Hds.of hh
  refine ⟨_, ps_tryL (tb := fun W => tVB X W ψ) hs hf hN tk (fun W pn xe t p => vb_canon (Y := X) (hb W pn xe t p) rfl) k2, fun H0 M0 M H σ env D g h => ⟨H0, M0, M, env, g, ?_⟩⟩
  unfold tryS at h
  cases q : ψ env <;> rw [q] at h <;> first | exact h | skip
  case xc c fs e => exact fun M' H' σ' cls dd g' e' rx => k3 _ (fun _ _ _ z => z) W H0 M0 M' H' σ' e D c fs cls dd g' rx (PostS.mono h e')
end
end VL

set_option maxRecDepth 100000
set_option maxHeartbeats 2000000
set_option autoImplicit false
namespace VL
open PySem L2
structure XCls (K : PySem.W.Frag) (mg : Str → Option Value) (x : Str) (C : Addr) : Prop where
  gC : mg x = some (.ref C)
  cl : PySem.W.isClsIn K C = true
  ga : PySem.W.findIn K (.ref C) "__getattribute__" = some (some (.builtin "BaseException.__getattribute__"))
  gg : PySem.W.findIn K (.ref C) "__getattr__" = some none
  exC : PySem.W.subIn K (.ref C) (.type "BaseException") = some true
  tyC : PySem.W.typeIn K (.ref C) = some (.type "type")
  hdC : PySem.W.hasDictIn K C = true
  ha : PySem.W.findIn K (.ref C) "__class__" = some (some (.builtin "object.__class__"))
  hm : PySem.W.mroIn K C (.type "object") = some true
structure XObj (K : PySem.W.Frag) : Prop where
  hn : PySem.W.specialIn K (.builtin "object.__class__") "__get__" = some (some (.builtin "getset_descriptor.__get__"))
  htk : PySem.W.takesIn K (.builtin "object.__class__") = some true
theorem kitOne_cls {K : PySem.W.Frag} {C D : Addr} {b : Bool} (h2 : PySem.W.isClsIn K D = true) (h3 : PySem.W.typeIn K (.ref D) = some (.type "type")) (h4 : PySem.W.subIn K (.ref C) (.ref D) = some b) (h5 : b = false → C ≠ D) : PySem.W.kitOne K (.ref C) (.ref D) = some b := by
  unfold PySem.W.kitOne
  by_cases e : C = D
  · subst e
    rw [if_pos (by simp)]
    cases b with
    | true => rfl
    | false => exact absurd rfl (h5 rfl)
  · rw [if_neg (by simp [e])]
    have e2 : ((PySem.W.clsIn K D).isSome && PySem.W.typeIn K (.ref D) == some (.type "type")) = true := by
      have h2' : (PySem.W.clsIn K D).isSome = true := h2
      rw [h2', h3]; rfl
    show (if ((PySem.W.clsIn K D).isSome && PySem.W.typeIn K (.ref D) == some (.type "type")) = true then PySem.W.subIn K (.ref C) (.ref D) else none) = some b
    rw [if_pos e2]
    exact h4
theorem exmOne_cls {K : PySem.W.Frag} {C D : Addr} {b : Bool} (h1 : PySem.W.subIn K (.ref D) (.type "BaseException") = some true) (h2 : PySem.W.isClsIn K D = true) (h3 : PySem.W.typeIn K (.ref D) = some (.type "type")) (h4 : PySem.W.subIn K (.ref C) (.ref D) = some b) : PySem.W.exmOne K (.ref C) (.ref D) = some b := by
  have e1 : (PySem.W.subIn K (.ref D) (.type "BaseException") == some true) = true := by rw [h1]; rfl
  have e2 : ((PySem.W.clsIn K D).isSome && PySem.W.typeIn K (.ref D) == some (.type "type")) = true := by
    have h2' : (PySem.W.clsIn K D).isSome = true := h2
    rw [h2', h3]; rfl
  show (if (PySem.W.subIn K (.ref D) (.type "BaseException") == some true) = true then (if ((PySem.W.clsIn K D).isSome && PySem.W.typeIn K (.ref D) == some (.type "type")) = true then PySem.W.subIn K (.ref C) (.ref D) else none) else none) = some b
  rw [if_pos e1, if_pos e2]
  exact h4
theorem exn_inst {X : Cx} {pins : List (Addr × Obj)} {σ : L2.St} {H : Hp} {s : Shared} {c : Str} {fs : List (Str × D)} {v : V} {C : Addr} (I : Inv X pins σ H s) {G : Vw} (le : VEx G (vw H)) (r : Rp (gm X) G (.exn c fs) v) (hC : X.mg c = some (.ref C)) :
    ∃ a oe od, v = .ref a ∧ PySem.W.InstAt s.heap a oe C od ∧ ∀ f d, fs.lookup f = some d → ∃ (u : Value) (x : V) (o : Obj), od = some o ∧ PySem.W.lookIn f o = some (some u) ∧ RelV x u ∧ Rp (gm X) G d x := by
  have vwE : ∀ {a : Addr} {oe : Obj}, vw H a = some (.frz oe (.own a)) → s.heap.get? a = some oe := fun {a oe} h => by
    have : H a = some (.frz oe (.own a)) := by
      unfold vw at h
      split at h <;> first | (cases h; done) | exact h
    exact (I.hok a _ this).1
  cases r with
  | exn0 h z hv hc =>
    rename_i a oe cls
    have ec : cls = .ref C := by have := hc.symm.trans hC; cases this; rfl
    subst ec
    obtain ⟨vs, hd⟩ := hv
    refine ⟨a, oe, none, rfl, ⟨vwE (le _ _ h), z.1, by unfold PySem.W.notCls; rw [hd], by rw [z.2]; trivial⟩, fun f d hf => ?_⟩
    cases hf
  | exnF h z hv hc hx hk hr =>
    rename_i a dd oe cls vs
    have ec : cls = .ref C := by have := hc.symm.trans hC; cases this; rfl
    subst ec
    obtain ⟨ws, hd⟩ := hv
    have hx' : ObjOk X.prog X.w H s.heap dd (.xd vs) := I.hok dd _ (vw_xd (le _ _ hx))
    obtain ⟨mA, hns, rel⟩ := hx'
    obtain ⟨od, ho, hl⟩ := lookIn_ns hns
    refine ⟨a, oe, some od, rfl, ⟨vwE (le _ _ h), z.1, by unfold PySem.W.notCls; rw [hd], by rw [z.2]; exact ho⟩, fun f d hf => ?_⟩
    have look : ∀ {fs : List (Str × D)} {vs : List (Str × V)}, fs.map (·.1) = vs.map (·.1) → RpL (gm X) G (fs.map (·.2)) (vs.map (·.2)) → fs.lookup f = some d → ∃ x, vs.lookup f = some x ∧ Rp (gm X) G d x := by
      intro fs
      induction fs with
      | nil => intro vs _ _ e; cases e
      | cons p fs ih =>
        intro vs e r l
        cases vs with
        | nil => cases e
        | cons q vs =>
          rw [List.map_cons, List.map_cons] at e
          obtain ⟨e1, e2⟩ := List.cons.inj e
          have r' : RpL (gm X) G (p.2 :: fs.map (·.2)) (q.2 :: vs.map (·.2)) := r
          cases r' with
          | cons ra rb =>
            obtain ⟨p1, p2⟩ := p
            obtain ⟨q1, q2⟩ := q
            have e1' : p1 = q1 := e1
            subst e1'
            by_cases c : f = p1
            · subst c
              rw [List.lookup_cons_self] at l ⊢
              cases l
              exact ⟨_, rfl, ra⟩
            · have cb : (f == p1) = false := by simpa using c
              rw [List.lookup_cons, cb] at l ⊢
              exact ih e2 rb l
    obtain ⟨x, e1, e2⟩ := look hk hr hf
    obtain ⟨u, hu, ru⟩ := RelO.some_of (v := x) (o := mA f) (by rw [← e1]; exact rel f)
    exact ⟨u, x, od, rfl, by rw [hl, hu], ru, e2⟩
def isX (tbl : List (Str × Bool)) : D → Res D
  | .exn c _ => match tbl.lookup c with
    | some b => .ok (.bl b)
    | none => .bad
  | _ => .bad
def isXE (tbl : List (Str × Bool)) (φ : Env → Res D) (env : Env) : Res D := (φ env).bind (isX tbl)
def VC (X : Cx) (e : Expr) (cv : Value) : Prop := ∃ c : V, PE X e (tC c) ∧ ClsV c cv
theorem vc_own {X : Cx} {x : Str} {C : Addr} {p : Pos} (hm : X.mg x = some (.ref C)) (hg : Gl X x := by rfl) (hd : (x == ("__debug__" : Str)) = false := by decide) : VC X (.Name x p) (.ref C) := ⟨.ref C, pe_glob hg hm rfl hd, .own C⟩
theorem vc_blt {X : Cx} {x : Str} {T : String} {p : Pos} (hm : X.mg x = none) (hv : bootBuiltins x = some (.type T)) (hg : Gl X x := by rfl) (hn : x ≠ "__name__" := by decide) (hd : (x == ("__debug__" : Str)) = false := by decide) : VC X (.Name x p) (.type T) :=
  ⟨.ty T, pe_bltn (v := .ty T) hg hm hv rfl hn hd, .ty T⟩
def VCs (X : Cx) (es : List Expr) (cvs : List Value) : Prop := ∃ (cs : List V) (t : TA), PA X es t ∧ (∀ σ H Q, Q cs H → t σ H Q) ∧ Paired ClsV cs cvs
theorem vcs_nil {X : Cx} : VCs X [] [] := ⟨[], _, pa_nil, fun _ _ _ h => h, .nil⟩
theorem vcs_cons {X : Cx} {e : Expr} {es : List Expr} {cv : Value} {cvs : List Value} (h1 : VC X e cv) (h2 : VCs X es cvs) (hs : starEach (e :: es) X.env = (false, eval e X.env) :: starEach es X.env := by rfl) : VCs X (e :: es) (cv :: cvs) := by
  obtain ⟨c, p, k⟩ := h1
  obtain ⟨cs, t, p2, q, k2⟩ := h2
  exact ⟨c :: cs, _, pa_cons p p2 hs, fun σ H Q h => q σ H _ h, .cons k k2⟩
section
variable {X : Cx} {W : WX} {fl fla : Bool} {e c : Expr} {xi pos pos2 : Pos} {φ : Env → Res D} {cv : Value} {es : List Expr} {cvs : List Value} {tbl : List (Str × Bool)} {kk : Nat}
def rIsX (X : Cx) (cv : Value) : List V → Hp → VK → Prop := fun xs H Q => ∃ (x c : V) (cn : Str) (fs : List (Str × D)) (C : Addr) (b : Bool), xs = [x, c] ∧ ClsV c cv ∧ XObj X.K ∧ XCls X.K X.mg cn C ∧ Rp (gm X) (vw H) (.exn cn fs) x ∧ PySem.W.kitOne X.K (.ref C) cv = some b ∧ Q (.bl b) H
theorem call_isX : CallR X (.builtin "isinstance") (rIsX X cv) := by
  intro pins s σ H xs us Q I r h
  obtain ⟨x, c, cn, fs, C, b, rfl, k, xo, T, rp, e, q⟩ := h
  obtain ⟨u1, u2, rfl, r1, r2⟩ := vals2 r
  have e2 := k.eq r2
  subst e2
  obtain ⟨a, oe, od, rfl, J, _⟩ := exn_inst I (.refl _) rp T.gC
  cases (show u1 = Value.ref a from r1)
  exact PySem.W.kia_one (PySem.W.kitx_exc T.cl T.ga T.gg T.exC T.ha xo.hn xo.htk T.hm) I.kIn J e (fun z => nomatch z) fun tk => ⟨.bl b, H, I.tok tk, rfl, q⟩
theorem ve_isX (xo : XObj X.K) (h : VE X W fla e φ) (hc : VC X c cv) (ht : ∀ n b, tbl.lookup n = some b → ∃ C, XCls X.K X.mg n C ∧ PySem.W.kitOne X.K (.ref C) cv = some b) (hmi : X.mg "isinstance" = none) (hgi : Gl X "isinstance" := by rfl)
    (hs : starEach (e :: [c]) X.env = (false, eval e X.env) :: starEach [c] X.env := by rfl) (hs2 : starEach (c :: []) X.env = (false, eval c X.env) :: starEach [] X.env := by rfl) (hpl : (backTo pos (starEach [c] X.env)).any (·.1) = false := by rfl) :
    VE X W fl (.Call (.Name "isinstance" xi) [e, c] [] pos) (isXE tbl φ) := by
  obtain ⟨t, pt, r⟩ := h
  obtain ⟨cc, pc, kc⟩ := hc
  refine ⟨_, pe_callB (call_isX (cv := cv)) hgi hmi (by decide +kernel) (pa_cons pt (pa_cons pc pa_nil hs2) hs) (by decide) (by decide) hs hpl, fun H0 M0 M H σ env Q g h => ?_⟩
  refine r H0 M0 M H σ env _ g (PostE.seq h fun d v H1 e1 r1 h1 => ?_)
  cases d <;> first | exact h1.elim | skip
  case exn n fs =>
    have h2 : PostE X W fl M σ H1 Q (match tbl.lookup n with | some b => .ok (.bl b) | none => .bad) := h1
    cases q : tbl.lookup n with
    | none => rw [q] at h2; exact h2.elim
    | some b =>
      rw [q] at h2
      obtain ⟨C, T, kk⟩ := ht n b q
      exact ⟨v, cc, n, fs, C, b, rfl, kc, xo, T, r1.mono (vis_le fla M _), kk, h2 _ H1 (Ext.refl _) (.bl b)⟩
def rIsXT (X : Cx) (cvs : List Value) : List V → Hp → VK → Prop := fun xs H Q => ∃ (x : V) (tp : Addr) (cs : List V) (cn : Str) (fs : List (Str × D)) (C : Addr) (b : Bool), xs = [x, .ref tp] ∧ H tp = some (.tup cs) ∧ Paired ClsV cs cvs ∧ XObj X.K ∧ XCls X.K X.mg cn C ∧ Rp (gm X) (vw H) (.exn cn fs) x ∧
  PySem.W.kitAny X.K (.ref C) cvs = some b ∧ Q (.bl b) H
theorem call_isXT : CallR X (.builtin "isinstance") (rIsXT X cvs) := by
  intro pins s σ H xs us Q I r h
  obtain ⟨x, tp, cs, cn, fs, C, b, rfl, hT, k, xo, T, rp, e, q⟩ := h
  obtain ⟨u1, u2, rfl, r1, r2⟩ := vals2 r
  cases (show u2 = Value.ref tp from r2)
  obtain ⟨a, oe, od, rfl, J, _⟩ := exn_inst I (.refl _) rp T.gC
  cases (show u1 = Value.ref a from r1)
  obtain ⟨_, its, rv, o, at_, oc, n, od2⟩ := (show ObjOk X.prog X.w H s.heap tp (.tup cs) from I.hok tp _ hT)
  have eits := ClsV.all k rv
  subst eits
  obtain ⟨c1, c2, c3, c4⟩ := o
  simp only at oc od2
  subst oc od2
  exact PySem.W.kia_tup (PySem.W.kitx_exc T.cl T.ga T.gg T.exC T.ha xo.hn xo.htk T.hm) I.kIn J at_ e (fun z => nomatch z) fun tk => ⟨.bl b, H, I.tok tk, rfl, q⟩
theorem ve_isXT (xo : XObj X.K) (h : VE X W fla e φ) (hc : VCs X es cvs) (ht : ∀ n b, tbl.lookup n = some b → ∃ C, XCls X.K X.mg n C ∧ PySem.W.kitAny X.K (.ref C) cvs = some b) (hl : cvs.length ≤ 100) (hmi : X.mg "isinstance" = none) (hgi : Gl X "isinstance" := by rfl)
    (hs : starEach (e :: [.Tuple es kk pos2]) X.env = (false, eval e X.env) :: starEach [.Tuple es kk pos2] X.env := by rfl) (hs2 : starEach (.Tuple es kk pos2 :: []) X.env = (false, eval (.Tuple es kk pos2) X.env) :: starEach [] X.env := by rfl)
    (hpl : (backTo pos (starEach [.Tuple es kk pos2] X.env)).any (·.1) = false := by rfl) : VE X W fl (.Call (.Name "isinstance" xi) [e, .Tuple es kk pos2] [] pos) (isXE tbl φ) := by
  obtain ⟨t, pt, r⟩ := h
  obtain ⟨cs, tc, pc, qc, kc⟩ := hc
  refine ⟨_, pe_callB (call_isXT (cvs := cvs)) hgi hmi (by decide +kernel) (pa_cons pt (pa_cons (pe_tup pc) pa_nil hs2) hs) (by decide) (by decide) hs hpl, fun H0 M0 M H σ env Q g h => ?_⟩
  refine r H0 M0 M H σ env _ g (PostE.seq h fun d v H1 e1 r1 h1 => ?_)
  cases d <;> first | exact h1.elim | skip
  case exn n fs =>
    have h2 : PostE X W fl M σ H1 Q (match tbl.lookup n with | some b => .ok (.bl b) | none => .bad) := h1
    cases q : tbl.lookup n with
    | none => rw [q] at h2; exact h2.elim
    | some b =>
      rw [q] at h2
      obtain ⟨C, T, kk⟩ := ht n b q
      refine qc _ _ _ ⟨by rw [Paired.length kc]; exact Nat.le_trans hl (by decide), fun tp htp => ?_⟩
      exact ⟨v, tp, cs, n, fs, C, b, rfl, upd_same, kc, xo, T, (r1.mono (vis_le fla M _)).mono (Ext.new htp).v, kk, h2 _ _ (Ext.new htp) (.bl b)⟩
def fldX (cs : List Str) (f : Str) : D → Res D
  | .exn c fs => if cs.contains c = true then (match fs.lookup f with | some v => .ok v | none => .bad) else .bad
  | _ => .bad
def fldXE (cs : List Str) (f : Str) (φ : Env → Res D) (env : Env) : Res D := (φ env).bind (fldX cs f)
def tXF (X : Cx) (f : Str) (te : TE) : TE := fun σ H Q => te σ H fun x H1 => ∃ (G : Vw) (cn : Str) (fs : List (Str × D)) (C : Addr) (d : D), XCls X.K X.mg cn C ∧ PySem.W.findIn X.K (.ref C) f = some none ∧ VEx G (vw H1) ∧ Rp (gm X) G (.exn cn fs) x ∧ fs.lookup f = some d ∧ ∀ y, Rp (gm X) G d y → Q y H1
theorem pe_xF {te : TE} {f : Str} (he : PE X e te) (hb : attributeBase e f X.env (eval e X.env) = eval e X.env := by rfl) : PE X (.Attribute e f pos) (tXF X f te) := by
  refine ⟨fun pins s σ H Q I h => ?_⟩
  refine attr_of hb (thn (he.run pins s σ H _ I h) fun u s1 hh => ?_)
  obtain ⟨x, H1, I1, rx, G, cn, fs, C, d, T, no, le, rp, hl, q⟩ := hh
  obtain ⟨a, oe, od, rfl, J, look⟩ := exn_inst I1 le rp T.gC
  cases (show u = Value.ref a from rx)
  obtain ⟨uv, y, o, rfl, lk, ry, rd⟩ := look f d hl
  exact HandSPX.exc_get I1.kIn J T.ga T.gg T.exC (PySem.W.findObj_own T.hdC no rfl lk) (handed_of ry) ⟨y, H1, I1.tok _, ry, q y rd⟩
theorem ve_xF {cs : List Str} {f : Str} (h : VE X W fl e φ) (ht : ∀ n, cs.contains n = true → ∃ C, XCls X.K X.mg n C ∧ PySem.W.findIn X.K (.ref C) f = some none) (hb : attributeBase e f X.env (eval e X.env) = eval e X.env := by rfl) : VE X W fl (.Attribute e f pos) (fldXE cs f φ) := by
  obtain ⟨t, pt, r⟩ := h
  refine ⟨_, pe_xF pt hb, fun H0 M0 M H σ env Q g h => ?_⟩
  refine r H0 M0 M H σ env _ g (PostE.seq h fun d v H1 e1 r1 h1 => ?_)
  cases d <;> first | exact h1.elim | skip
  case exn n fs =>
    obtain ⟨hc, h2⟩ := PostE.ite (c := cs.contains n = true) (r := match fs.lookup f with | some v => .ok v | none => .bad) h1
    cases q : fs.lookup f with
    | none => rw [q] at h2; exact h2.elim
    | some d =>
      rw [q] at h2
      obtain ⟨C, T, no⟩ := ht n hc
      exact ⟨_, n, fs, C, d, T, no, vis_le fl M _, r1, q, fun y ry => h2 y H1 (Ext.refl _) ry⟩
end
structure FnC (P : Program) (w : World) (K : PySem.W.Frag) (mg : Str → Option Value) (base : Heap) (CX : CXT) (k : Nat) (f : Addr) (fd : FuncData) (ps : List Str) (sp : Sp) : Prop where
  len : ∀ vs H Q E, sp vs H Q E → vs.length = ps.length
  run : ∀ (A : Around) (outer : List PySem.Env) (s : Shared) (H : Hp) (args : Args) (us : List Value) (vs : List V) (Q : VK) (E : XK), L2H.RoomH k A → Env0 P w K mg base A outer s H → BindsTo s fd args (ps.zip us) → Vals vs us → sp vs H Q E →
    codeAny (model P w) A (.call (.ref f) args) (CR CX outer P w H s Q E) s
abbrev cxC (CX : CXT) (P : Program) (w : World) (K : PySem.W.Frag) (mg : Str → Option Value) (base : Heap) (N : List Str) (qual : Str) (scope : Scope) (f : Addr) (cd : Value) (A : Around) (outer : List PySem.Env) (s : Shared) (H : Hp) (E : XK) (p : Addr × Obj) : Cx :=
  L2H.cxH CX P w K mg base N qual scope f cd A outer s H E p
section
variable {P : Program} {w : World} {K : PySem.W.Frag} {mg : Str → Option Value} {base : Heap} {CX : CXT} {x qual : Str} {st : Stmt} {f : Addr} {fd : FuncData} {N ps : List Str} {k n : Nat} {sp : Sp}
theorem FnC.ok (F : FnC P w K mg base CX k f fd ps sp) : FnOk P w K mg base CX k f fd ps sp := ⟨F.len, fun A outer s H args us vs Q E hr => F.run A outer s H args us vs Q E (L2H.roomH_of hr)⟩
theorem fun_okC (F : Fun K x qual st f fd) (S : FnScope N ps (defScope st)) (len : ∀ vs H Q E, sp vs H Q E → vs.length = ps.length)
    (hbody : ∀ (cdv : Value) (A : Around) (outer : List PySem.Env) (s : Shared) (H : Hp) (vs : List V) (Q : VK) (E : XK) (p : Addr × Obj), L2H.RoomH k (A.deeper (PyProof.Rows.envOfC qual (defScope st) s.heap.objs.size f cdv)) → sp vs H Q E →
      ∃ t, PSs (cxC CX P w K mg base N qual (defScope st) f cdv A outer s H E p) (defBody st) t ∧ t { nx := fun _ H' => Q .non H', rt := Q } (L2.start N vs) H) : FnC P w K mg base CX (k + 1) f fd ps sp := by
  obtain ⟨oc, od, kV, doc, pm, an, cdv, ct, osl, rfl, lk, hcd⟩ := F.ex
  refine ⟨len, fun A outer s H args us vs Q E hr e0 hb r hsp => ?_⟩
  have there : K.In s.heap := e0.mod.kin.keeps fun b o e => (e0.bs b o e).1
  have lim : s.heap.NoLimit := e0.mod.nolimit.keeps fun b o e => (e0.bs b o e).1
  obtain ⟨mc, ⟨o, es, ep, ho, hd, _⟩, _⟩ := id e0.mod.nolimit
  obtain ⟨at_, free⟩ := e0.bs _ _ ho
  have pin : L2H.PinOk outer H s (cStatics, o) := ⟨at_, free, (fun hm => by
    have := (e0.funs.mem hm).1
    rw [ho] at this; cases this), (fun v z => by
    have z' : o.data = .cell v := z
    rw [hd] at z'; cases z')⟩
  refine codeAny_call_function hr.depth (there _ _ lk) rfl S.co S.gen rfl (PySem.W.codeRec_of there hcd) (hb _ _ _ _ ?_)
  refine PySem.wpAny_newFunctionEnv_cells S.kind (fun ⟨n, v⟩ hy => ?_) fun env he s1 inC => ?_
  · rcases S.par n (List.of_mem_zip hy).1 with q | q
    · exact .inl q
    · exact .inr ⟨q, PySem.W.cellsFrom_some _ _ _ (.inl q)⟩
  subst he
  refine ⟨lim.keeps inC.toInCall.keep, codeAny_func ?_⟩
  obtain ⟨t, ht, hq⟩ := hbody cdv A outer s H vs Q E (cStatics, o) (hr.deeper _) hsp
  have I := L2H.inv_startH (CX := CX) (E := E) S pin e0 (len _ _ _ _ hsp) r inC
  refine wpAny_mono (ht.run [] s1 _ H _ I hq) (fun fl s2 out => ?_) fun _ _ z => z
  match fl, out with
  | .ret u, ⟨v, σ2, H2, J, rv, q⟩ => exact ⟨v, H2, J.os, J.bare, J.base, J.hok, rv, q⟩
  | .next, ⟨σ2, H2, J, q⟩ => exact ⟨.non, H2, J.os, J.bare, J.base, J.hok, rfl, q⟩
  | .brk, ⟨_, _, _, q⟩ => exact False.elim q
  | .cont, ⟨_, _, _, q⟩ => exact False.elim q
theorem fn_vC {ψ : Env → SRes} (F : Fun K x qual st f fd) (S : FnScope N ps (defScope st)) (hn : ps.length = n)
    (body : ∀ (cdv : Value) (A : Around) (outer : List PySem.Env) (s : Shared) (H : Hp) (E : XK) (p : Addr × Obj), L2H.RoomH k (A.deeper (PyProof.Rows.envOfC qual (defScope st) s.heap.objs.size f cdv)) →
      L2N.Takes (cxC (L2N.CX P w) P w K mg base N qual (defScope st) f cdv A outer s H E p) (WB E) → VB (cxC (L2N.CX P w) P w K mg base N qual (defScope st) f cdv A outer s H E p) (WB E) (defBody st) ψ) :
    FnC P w K mg base (L2N.CX P w) (k + 1) f fd ps (spV ⟨P, w, K, mg⟩ n (defM N.length ψ)) := by
  refine fun_okC F S (fun vs H Q E h => h.1.trans hn.symm) fun cdv A outer s H vs Q E p hr h => ?_
  obtain ⟨hl, M, ds, m, r, post⟩ := h
  obtain ⟨t, pp, rr⟩ := body cdv A outer s H E p hr (L2N.takes_of rfl rfl rfl rfl)
  refine ⟨t, pp, rr H M M H _ (env0 N.length ds) _ (good0 m r) ?_⟩
  unfold defM at post
  cases q : ψ (env0 N.length ds) with
  | rt d => rw [q] at post; exact fun v H' e r' => post v H' e r'
  | nx env => rw [q] at post; exact fun M' H' σ' g e => post .non H' g.ex .non
  | bk env => rw [q] at post; exact post.elim
  | ct env => rw [q] at post; exact post.elim
  | xc c fs env =>
    rw [q] at post
    exact fun M' H' σ' cls dd g e r' => post cls dd H' g.ex (r'.mono (Good.rt (X := cxC (L2N.CX P w) P w K mg base N qual (defScope st) f cdv A outer s H E p) g))
  | bad => rw [q] at post; exact post
  | ro d => rw [q] at post; exact post.elim
end
structure DefOkC (P : Program) (w : World) (K : PySem.W.Frag) (mg : Str → Option Value) (base : Heap) (x : Str) (k : Nat) (ps : List Str) (n : Nat) (F : List D → Res D) : Prop where
  ex : ∃ (f : Addr) (fd : FuncData), mg x = some (.ref f) ∧ PySem.W.keepIn K (.ref f) = true ∧ Binds K fd ps [] ∧ FnC P w K mg base (L2N.CX P w) k f fd ps (spV ⟨P, w, K, mg⟩ n F)
  lk : ∀ f fd, mg x = some (.ref f) → (∃ oc od osl, K.lookup f = some ⟨oc, od, .func fd, osl⟩) → FnC P w K mg base (L2N.CX P w) k f fd ps (spV ⟨P, w, K, mg⟩ n F)
section
variable {P : Program} {w : World} {K : PySem.W.Frag} {mg : Str → Option Value} {base : Heap} {x qual : Str} {st : Stmt} {N ps : List Str} {k n : Nat} {ψ : Env → SRes} {F G : List D → Res D}
theorem DefOkC.ok (h : DefOkC P w K mg base x k ps n F) : DefOk P w K mg base x k ps n F := by
  obtain ⟨f, fd, h1, h2, h3, h4⟩ := h.ex
  exact ⟨⟨f, fd, h1, h2, h3, h4.ok⟩, fun f fd e1 e2 => (h.lk f fd e1 e2).ok⟩
theorem def_vC (N : List Str) (ψ : Env → SRes) (R : Raw K mg x st ps) (S : FnScope N ps (defScope st)) (hn : ps.length = n) (hF : F = defM N.length ψ)
    (body : ∀ (f : Addr) (cdv : Value) (A : Around) (outer : List PySem.Env) (s : Shared) (H : Hp) (E : XK) (p : Addr × Obj), L2H.RoomH k (A.deeper (PyProof.Rows.envOfC x (defScope st) s.heap.objs.size f cdv)) →
      L2N.Takes (cxC (L2N.CX P w) P w K mg base N x (defScope st) f cdv A outer s H E p) (WB E) → VB (cxC (L2N.CX P w) P w K mg base N x (defScope st) f cdv A outer s H E p) (WB E) (defBody st) ψ) :
    DefOkC P w K mg base x (k + 1) ps n F := by
  subst hF
  obtain ⟨f, fd, h1, h2, h3⟩ := R.ex
  refine ⟨⟨f, fd, h1, h2.kp, h3, fn_vC h2 S hn (body f)⟩, fun f' fd' e h => ?_⟩
  rw [h1] at e
  cases e
  obtain ⟨_, _, _, h⟩ := h
  obtain ⟨_, _, _, _, _, _, _, _, _, _, h', _⟩ := h2.ex
  rw [h'] at h
  cases h
  exact fn_vC h2 S hn (body f)
variable {X : Cx} {W : WX} {fl : Bool} {e : Expr} {es : List Expr} {pos p : Pos} {φs : Env → Res (List D)}
theorem pe_callC {CX : CXT} {f : Addr} {fd : FuncData} {sp : Sp} {E : L2.St → XK} {t : TA} (hF : FnC X.prog X.w X.K X.mg X.base CX k f fd ps sp) (hr : L2H.RoomH k X.A) (hg : Gl X x) (hm : X.mg x = some (.ref f)) (hk : PySem.W.keepIn X.K (.ref f) = true) (hb : Binds X.K fd ps []) (hx : ∀ σ, PassesAt CX X σ (E σ))
    (ha : PA X (e :: es) t) (hdb : (x == ("__debug__" : Str)) = false := by decide) (he : starEach (e :: es) X.env = (false, eval e X.env) :: starEach es X.env := by rfl) (hpl : (backTo pos (starEach es X.env)).any (·.1) = false := by rfl) : PE X (.Call (.Name x p) (e :: es) [] pos) (tCallS sp E t) := by
  refine ⟨fun pins s σ H Q I h => wpAny_Call_Name_kw (ld_glob I hg hm (PySem.W.callWith_K (h₀ := X.base) I.ok.mod.kin hk (thn (ha.run pos pins s σ H _ I h) fun us s1 ⟨vs, H1, I1, r, q⟩ => ⟨I1.kIn, ?_⟩) he hpl) hdb)⟩
  have hl : (us.length) = ps.length := by rw [← r.length]; exact hF.len _ _ _ _ q
  have b := hb s1 us I1.kIn (by rw [List.append_nil]; exact hl)
  rw [List.append_nil] at b
  refine wpAny_call (codeAny_mono (hF.run X.A X.stack s1 H1 ⟨us, []⟩ us vs Q (E σ) hr I1.env0 b r q) fun r2 s2 out => ?_)
  match r2, out with
  | .error er, out => exact hx σ pins H1 s1 er s2 I1 out
  | .ok (.ret u), out => exact I1.after out
  | .ok .next, out => exact False.elim out
  | .ok .brk, out => exact False.elim out
  | .ok .cont, out => exact False.elim out
theorem ve_defC (h : DefOkC X.prog X.w X.K X.mg X.base x k ps n F) (tk : L2N.Takes X W) (hr : L2H.RoomH k X.A) (ha : VA X W true (e :: es) φs) (hn : (e :: es).length = n) (hl : ∀ env ds, φs env = .ok ds → ds.length = n) (hg : Gl X x := by rfl) (hdb : (x == ("__debug__" : Str)) = false := by decide)
    (he : starEach (e :: es) X.env = (false, eval e X.env) :: starEach es X.env := by rfl) (hpl : (backTo pos (starEach es X.env)).any (·.1) = false := by rfl) : VE X W fl (.Call (.Name x p) (e :: es) [] pos) (aE F φs) := by
  obtain ⟨f, fd, hm, hk, hb, hF⟩ := h.ex
  obtain ⟨t, pt, r⟩ := ha
  refine ⟨_, pe_callC hF hr hg hm hk hb (fun σ => L2N.passAt tk σ) pt hdb he hpl, fun H0 M0 M H σ env Q g h => ?_⟩
  have h0 : PostE X W fl M σ H Q ((φs env).bind F) := h
  refine r H0 M0 M H σ env _ g ?_
  cases q : φs env with
  | ok ds =>
    rw [q] at h0
    intro vs H1 e1 r1
    refine ⟨(r1.length.symm).trans (hl env ds q), M, ds, g.ok.mono e1, r1, ?_⟩
    have h1 : PostE X W fl M σ H1 Q (F ds) := PostE.mono h0 e1
    cases z : F ds with
    | ok d => rw [z] at h1; exact fun v H2 e2 r2 => h1 v H2 e2 (r2.mono (Sh_vis fl M _))
    | exc c fs => rw [z] at h1; exact fun cls dd H2 e2 r2 => h1 cls dd H2 e2 r2
    | bad => rw [z] at h1; exact h1
  | exc c fs => rw [q] at h0; exact h0
  | bad => rw [q] at h0; exact h0
end
end VL

set_option maxRecDepth 100000
set_option maxHeartbeats 2000000
set_option autoImplicit false
namespace VL
open PySem L2
theorem rh1 {k : Nat} {A : Around} (r : L2H.RoomH k A) : A.units + 1 < cLine := by have := r.un; omega
theorem rhu {k : Nat} {A : Around} (r : L2H.RoomH k A) : A.units + 64 < cLine := by have := r.un; omega
theorem rhm {k : Nat} {A : Around} (r : Room k A) (h : Option Value) : L2H.RoomH k (A.mark h) := L2H.roomH_mark r h
theorem cat_nil {p : Str → Bool → Prop} : ∀ c b, ([] : List (Str × Bool)).lookup c = some b → p c b := fun _ _ h => by cases h
theorem cat_cons {p : Str → Bool → Prop} {x : Str} {v : Bool} {l : List (Str × Bool)} (h : p x v) (t : ∀ c b, l.lookup c = some b → p c b) : ∀ c b, ((x, v) :: l).lookup c = some b → p c b := fun c b e => by
  by_cases q : c = x
  · subst q
    rw [List.lookup_cons_self] at e
    cases e
    exact h
  · have cb : (c == x) = false := by simpa using q
    rw [List.lookup_cons, cb] at e
    exact t c b e
theorem has_nil {p : Str → Prop} : ∀ c, ([] : List Str).contains c = true → p c := fun _ h => by simp at h
theorem has_cons {p : Str → Prop} {x : Str} {l : List Str} (h : p x) (t : ∀ c, l.contains c = true → p c) : ∀ c, (x :: l).contains c = true → p c := fun c e => by
  by_cases q : c = x
  · subst q; exact h
  · refine t c ?_
    have cb : (c == x) = false := by simpa using q
    rw [List.contains_cons, cb, Bool.false_or] at e
    exact e
structure ExZ (K : PySem.W.Frag) (mg : Str → Option Value) (x : Str) : Prop where
  ex : ∃ C, mg x = some (.ref C) ∧ PySem.W.excIn K C [.type "ValueError", .type "Exception", .type "BaseException", .type "object"] "ValueError.__new__" = true ∧ PySem.W.keepIn K (.ref C) = true ∧ PySem.W.subIn K (.ref C) (.type "BaseException") = some true ∧ PySem.W.typeIn K (.ref C) = some (.type "type")
theorem oexC_of {K : PySem.W.Frag} {C N : Addr} {nm q : Str} {bs bm : List Value} {sn : List Str} {sub : List Value} {ab : Bool} {col : Option Bool} {dd : Option Addr} {m0 m1 m2 m3 m5 : Option Value}
    (xL : K.lookup C = some (excClassObj nm q C N bs bm true sn sub ab col dd m0 m1 m2 m3 m5 "ValueError.__new__")) (rv : PySem.HandSPX.refsVE bm = true) (sa : PySem.W.findIn K (.ref C) "__setattr__" = some (some (.builtin "object.__setattr__")))
    (eC : PySem.W.subIn K (.ref C) (.type "BaseException") = some true) (tC : PySem.W.typeIn K (.ref C) = some (.type "type")) (kC : PySem.W.keepIn K (.ref C) = true) : OexC K C :=
  ⟨⟨nm, q, N, bs, bm, sn, sub, ab, col, dd, m0, m1, m2, m3, m5, xL, rv⟩, sa, eC, tC, kC⟩
structure RCls (K : PySem.W.Frag) (D : Addr) : Prop where
  cl : PySem.W.isClsIn K D = true
  ty : PySem.W.typeIn K (.ref D) = some (.type "type")
  ex : PySem.W.subIn K (.ref D) (.type "BaseException") = some true
  self : PySem.W.subIn K (.ref D) (.ref D) = some true
theorem RCls.exm {K : PySem.W.Frag} {C D : Addr} {b : Bool} (h : RCls K D) (s : PySem.W.subIn K (.ref C) (.ref D) = some b) : PySem.W.exmOne K (.ref C) (.ref D) = some b := exmOne_cls h.ex h.cl h.ty s
theorem RCls.kit {K : PySem.W.Frag} {C D : Addr} {b : Bool} (h : RCls K D) (s : PySem.W.subIn K (.ref C) (.ref D) = some b) : PySem.W.kitOne K (.ref C) (.ref D) = some b :=
  kitOne_cls h.cl h.ty s fun e z => by
    subst z
    rw [h.self, e] at s
    cases s
theorem kit_type {K : PySem.W.Frag} {C : Addr} {T : String} {b : Bool} (m : PySem.W.kitMeta T = true) (s : PySem.W.subIn K (.ref C) (.type T) = some b) : PySem.W.kitOne K (.ref C) (.type T) = some b := by
  unfold PySem.W.kitOne
  rw [if_neg (by simp)]
  show (if PySem.W.kitMeta T = true then PySem.W.subIn K (.ref C) (.type T) else none) = some b
  rw [if_pos m]
  exact s
theorem kits_no {K : PySem.W.Frag} {t c : Value} {cs : List Value} {r : Bool} (h : PySem.W.kitOne K t c = some false) (hr : PySem.W.kitAny K t cs = some r) : PySem.W.kitAny K t (c :: cs) = some r := kitAny_cons h (fun _ => hr) (fun z => by cases z)
theorem kits_yes {K : PySem.W.Frag} {t c : Value} {cs : List Value} (h : PySem.W.kitOne K t c = some true) : PySem.W.kitAny K t (c :: cs) = some true := kitAny_cons h (fun z => by cases z) (fun _ => rfl)
end VL

set_option maxRecDepth 100000
set_option maxHeartbeats 2000000
set_option autoImplicit false
namespace VL
open PySem L2
section
variable {φ : Env → Res D} {φs : Env → Res (List D)} {env : Env} {ψ : Env → SRes} {hs : List HdD} {c : Str} {fs : List (Str × D)} {ds : List D} {ns : List Str} {tbl : List (Str × Bool)} {f : Str} {cs : List Str} {P : Post} {i : Nat} {χ : Env → SRes} {cat : List (Str × Bool)}
def rRaise (c : Str) (ns : List Str) (r : Res (List D)) (env : Env) : SRes := ofA r env fun ds => if ds.length = ns.length then .xc c (ns.zip ds).reverse env else .bad
theorem raiseS_eq : raiseS c ns φs env = rRaise c ns (φs env) env := rfl
theorem rRaise_ok : rRaise c ns (.ok ds) env = if ds.length = ns.length then .xc c (ns.zip ds).reverse env else .bad := rfl
theorem raise0S_eq : raise0S c env = .xc c [] env := rfl
theorem isXE_eq : isXE tbl φ env = r1 (isX tbl) (φ env) := rfl
theorem fldXE_eq : fldXE cs f φ env = r1 (fldX cs f) (φ env) := rfl
theorem isX_exn : isX tbl (.exn c fs) = match tbl.lookup c with | some b => .ok (.bl b) | none => .bad := rfl
theorem fldX_exn : fldX cs f (.exn c fs) = if cs.contains c = true then (match fs.lookup f with | some v => .ok v | none => .bad) else .bad := rfl
theorem int_bl {b : Bool} : intF [.bl b] = .ok (.int (if b = true then 1 else 0)) := rfl
theorem Sat.tri (h : Sat { P with xc := fun c fs e => Sat P (hndS c fs hs e) } (ψ env)) : Sat P (tryS ψ hs env) := by
  unfold tryS
  cases q : ψ env <;> rw [q] at h <;> exact h
theorem hnd_yes {r : List HdD} {on : Option Nat} (h : cat.lookup c = some true) : hndS c fs ((cat, on, χ) :: r) env = outI on (χ (inE on c fs env)) := by
  show (match cat.lookup c with | some true => outI on (χ (inE on c fs env)) | some false => hndS c fs r env | none => .bad) = _
  rw [h]
theorem outI_nx : outI (some i) (.nx env) = .nx (env.set i .no) := rfl
theorem outI_rt {d : D} : outI (some i) (.rt d) = .rt d := rfl
theorem outI_nx0 : outI none (.nx env) = .nx env := rfl
theorem outI_rt0 {d : D} : outI none (.rt d) = .rt d := rfl
theorem inE_s : inE (some i) c fs env = env.set i (.sh (.exn c fs)) := rfl
theorem inE_0 : inE none c fs env = env := rfl
theorem rSet_xc : rSet i (.exc c fs) env = .xc c fs env := rfl
theorem rDrop_xc : rDrop (.exc c fs) env = .xc c fs env := rfl
theorem rRet_xc : rRet (.exc c fs) env = .xc c fs env := rfl
theorem r1_xc {α β : Type} {g : α → Res β} : r1 g (.exc c fs) = .exc c fs := rfl
theorem rC_xc {b : Res (List D)} : rC (.exc c fs) b = .exc c fs := rfl
theorem r2_xc {g : D → D → Res D} {b : Res D} : r2 g (.exc c fs) b = .exc c fs := rfl
theorem rIf_xc {ψ χ : Env → SRes} : rIf (.exc c fs) ψ χ env = .xc c fs env := rfl
theorem lst_k {ds : List D} (h : ds.length ≤ 1000000) : lstD ds = .ok (.lst ds) := if_pos (Nat.le_trans h (by decide))
theorem tup_k {ds : List D} (h : ds.length ≤ 1000000) : tupD ds = .ok (.tup ds) := if_pos (Nat.le_trans h (by decide))
theorem catl_k {xs ys : List D} (h : xs.length + ys.length ≤ 1000000) : addD (.lst xs) (.lst ys) = .ok (.lst (xs ++ ys)) := if_pos (Nat.le_trans h (by decide))
end
end VL

set_option maxRecDepth 100000
set_option maxHeartbeats 2000000
set_option autoImplicit false
namespace VL
open PySem L2
def entKV (e : DictEntry) : Option (Str × Int) := match e.key, e.val with
  | .str x _, .int i _ => some (x, i)
  | _, _ => none
structure WDic (K : PySem.W.Frag) (P : Params) (mg : Str → Option Value) (x : Str) (l : List (Str × Int)) : Prop where
  ex : ∃ a es n, mg x = some (.ref a) ∧ K.lookup a = some ⟨.type "dict", none, .dict es n, #[]⟩ ∧ PySem.W.KeysLit P es.toList ∧ (a == sysModules) = false ∧ es.toList.map entKV = l.map some
def inW (l : List (Str × Int)) (neg : Bool) : D → Res D
  | .str s => .ok (.bl ((l.lookup s).isSome != neg))
  | _ => .bad
def inWE (l : List (Str × Int)) (neg : Bool) (φ : Env → Res D) (env : Env) : Res D := (φ env).bind (inW l neg)
def ixW (l : List (Str × Int)) : D → Res D
  | .str s => match l.lookup s with
    | some i => .ok (.int i)
    | none => .bad
  | _ => .bad
def ixWE (l : List (Str × Int)) (φ : Env → Res D) (env : Env) : Res D := (φ env).bind (ixW l)
section
variable {X : Cx} {W : WX} {fl fla : Bool} {e : Expr} {x : Str} {l : List (Str × Int)} {p pos : Pos} {φ : Env → Res D}
end
abbrev CaD := Option (List Str) × (Env → SRes)
def casS (z : Str) : List CaD → Env → SRes
  | [], env => .nx env
  | (none, χ) :: _, env => χ env
  | (some l, χ) :: r, env => if l.contains z = true then χ env else casS z r env
def matS (φ : Env → Res D) (cs : List CaD) (env : Env) : SRes := ofE (φ env) env fun d => match d with
  | .str z => casS z cs env
  | _ => .bad
inductive VCas (X : Cx) (W : WX) : List MatchCase → List CaD → Prop
  | nil : VCas X W [] []
  | one {x : Str} {j : Nat} {q1 q2 : Pos} {sts : List Stmt} {χ : Env → SRes} {cs : List MatchCase} {l : List CaD} (hb : VB X W sts χ) (r : VCas X W cs l) : VCas X W (⟨.MatchValue (.Constant (.str x) j q1) q2, none, sts⟩ :: cs) ((some [x], χ) :: l)
  | two {x y : Str} {j j2 : Nat} {q1 q2 q3 q4 q5 : Pos} {sts : List Stmt} {χ : Env → SRes} {cs : List MatchCase} {l : List CaD} (hb : VB X W sts χ) (r : VCas X W cs l) :
      VCas X W (⟨.MatchOr [.MatchValue (.Constant (.str x) j q1) q2, .MatchValue (.Constant (.str y) j2 q3) q4] q5, none, sts⟩ :: cs) ((some [x, y], χ) :: l)
  | any {q1 : Pos} {sts : List Stmt} {χ : Env → SRes} {cs : List MatchCase} {l : List CaD} (hb : VB X W sts χ) : VCas X W (⟨.MatchAs none none q1, none, sts⟩ :: cs) ((none, χ) :: l)
section
variable {X : Cx} {W : WX} {fl : Bool} {e : Expr} {pos : Pos} {φ : Env → Res D} {cs : List MatchCase} {l : List CaD}
theorem pat_val {pins : List (Addr × Obj)} {s : Shared} {σ : L2.St} {H : Hp} {z x : Str} {v : Value} {j : Nat} {q1 q2 : Pos} {Q : Option (List (Str × Value)) → Shared → Prop} (I : Inv X pins σ H s) (r : RelV (.str z) v) (h : ∀ s', Inv X pins σ H s' → Q (if z = x then some [] else none) s') :
    wpAny (model X.prog X.w) X.A (matchPattern (.MatchValue (.Constant (.str x) j q1) q2) X.env v) Q X.xe s := by
  refine wpAny_matchPattern_Value (wpAny_mono ((pe_str (X := X) (x := x) (j := j) (pos := q1)).run pins s σ H (fun y H1 => y = .str x ∧ H1 = H) I ⟨rfl, rfl⟩) (fun u s1 ⟨y, H1, I1, ry, ey, eH⟩ => ?_) fun _ _ z => z)
  subst ey
  subst eH
  refine wpAny_mono (op_eq pins s1 σ H1 (.str z) (.str x) v u (fun c H2 => c = .bl (decide (z = x)) ∧ H2 = H1) I1 r ry ⟨rfl, ?_, rfl⟩) (fun c s2 ⟨c', H2, I2, rc, ec, eH⟩ => ?_) fun _ _ z => z
  · exact congrArg V.bl (decide_eq_decide.mpr ⟨fun e => by cases e; rfl, fun e => by rw [e]⟩)
  · subst ec
    subst eH
    cases rc
    refine wpAny_truthy_bool ?_
    have := h s2 I2
    by_cases e : z = x
    · rw [if_pos e] at this; rw [decide_eq_true e]; exact this
    · rw [if_neg e] at this; rw [decide_eq_false e]; exact this
theorem vs_match (he : VE X W fl e φ) (hc : VCas X W cs l) : VS X W (.Match e cs pos) (matS φ l) := by
  obtain ⟨t, pt, r⟩ := he
  refine ⟨fun D σ H => t σ H fun v H1 => ∃ z, v = .str z ∧ tVB X W (casS z l) D σ H1, ⟨fun pins s σ H D I h => ?_⟩, fun H0 M0 M H σ env D g h => ?_⟩
  · refine wpAny_Match (wpAny_mono (pt.run pins s σ H _ I h) (fun v s1 ⟨x, H1, I1, rv, z, ex, k⟩ => ?_) fun _ _ z => z)
    subst ex
    have go : ∀ {cs : List MatchCase} {l : List CaD}, VCas X W cs l → ∀ (s1 : Shared) (first : Bool), Inv X pins σ H1 s1 → tVB X W (casS z l) D σ H1 → wpAny (model X.prog X.w) X.A (matchCases cs X.env v first) (SP X pins D) X.xe s1 := by
      intro cs l hc
      induction hc with
      | nil =>
        intro s1 first I1 ⟨H0, M0, M, env, g, k⟩
        exact wpAny_matchCases_nil ⟨σ, H1, I1, k M H1 σ g (.refl _)⟩
      | @one x j q1 q2 sts χ cs l hb r ih =>
        intro s1 first I1 ⟨H0, M0, M, env, g, k⟩
        obtain ⟨tb, pb, rb⟩ := hb
        refine wpAny_matchCases_cons (pat_val I1 rv fun s2 I2 => ?_)
        have k' : PostS X W H0 M0 M H1 D (if ([x] : List Str).contains z = true then χ env else casS z l env) := k
        by_cases e : z = x
        · rw [if_pos e]
          rw [if_pos (by simp [e])] at k'
          exact wpAny_assignInOrder_none (pb.run pins s2 σ H1 D I2 (rb H0 M0 M H1 σ env D g k'))
        · rw [if_neg e]
          rw [if_neg (by simp [e])] at k'
          exact ih s2 false I2 ⟨H0, M0, M, env, g, k'⟩
      | @two x y j j2 q1 q2 q3 q4 q5 sts χ cs l hb r ih =>
        intro s1 first I1 ⟨H0, M0, M, env, g, k⟩
        obtain ⟨tb, pb, rb⟩ := hb
        have k' : PostS X W H0 M0 M H1 D (if ([x, y] : List Str).contains z = true then χ env else casS z l env) := k
        refine wpAny_matchCases_cons (wpAny_matchPattern_Or (wpAny_matchFirst_cons (pat_val I1 rv fun s2 I2 => ?_)))
        by_cases e : z = x
        · rw [if_pos e]
          rw [if_pos (by simp [e])] at k'
          exact wpAny_assignInOrder_none (pb.run pins s2 σ H1 D I2 (rb H0 M0 M H1 σ env D g k'))
        · rw [if_neg e]
          refine wpAny_matchFirst_cons (pat_val I2 rv fun s3 I3 => ?_)
          by_cases e2 : z = y
          · rw [if_pos e2]
            rw [if_pos (by simp [e2])] at k'
            exact wpAny_assignInOrder_none (pb.run pins s3 σ H1 D I3 (rb H0 M0 M H1 σ env D g k'))
          · rw [if_neg e2]
            rw [if_neg (by simp [e, e2])] at k'
            exact wpAny_matchFirst_nil (ih s3 false I3 ⟨H0, M0, M, env, g, k'⟩)
      | @any q1 sts χ cs l hb =>
        intro s1 first I1 ⟨H0, M0, M, env, g, k⟩
        obtain ⟨tb, pb, rb⟩ := hb
        exact wpAny_matchCases_cons (wpAny_matchPattern_Capture (wpAny_assignInOrder_none (pb.run pins s1 σ H1 D I1 (rb H0 M0 M H1 σ env D g k))))
    exact go hc s1 true I1 k
  · refine r H0 M0 M H σ env _ g (PostS.ofE g h fun d v H1 e1 g1 r1 h1 => ?_)
    cases d <;> first | exact h1.elim | skip
    case str z =>
      cases r1
      exact ⟨z, rfl, H0, M0, M, env, g1, h1⟩
end
end VL

set_option maxRecDepth 100000
set_option maxHeartbeats 2000000
set_option autoImplicit false
namespace VL
open PySem L2
def treeB : Nat → D → Bool
  | 0, _ => false
  | _ + 1, .non => true
  | _ + 1, .int _ => true
  | _ + 1, .str s => okS s
  | n + 1, .tup ds => ds.all (treeB n)
  | n + 1, .lst ds => ds.all (treeB n)
  | _ + 1, _ => false
theorem tree_facts : ∀ (n : Nat) (d : D), treeB n d = true → plain d = true ∧ (toPy d).canLay0 = true ∧ (toPy d).depth ≤ n
  | 0, _, h => by cases h
  | n + 1, .non, _ => ⟨rfl, by simp [toPy, PyData.canLay0], by simp [toPy, PyData.depth]⟩
  | n + 1, .int _, _ => ⟨rfl, by simp [toPy, PyData.canLay0], by simp [toPy, PyData.depth]⟩
  | n + 1, .str s, h => ⟨rfl, by unfold toPy PyData.canLay0; exact h, by simp [toPy, PyData.depth]⟩
  | n + 1, .tup ds, h => by
    have key : ∀ ds : List D, ds.all (treeB n) = true → plains ds = true ∧ PyData.canLayAll0 (toPys ds) = true ∧ PyData.depthAll (toPys ds) ≤ n := by
      intro ds
      induction ds with
      | nil => exact fun _ => ⟨rfl, by simp [toPys, PyData.canLayAll0], by simp [toPys, PyData.depthAll]⟩
      | cons d ds ih =>
        intro h
        rw [List.all_cons] at h
        obtain ⟨h1, h2⟩ := Bool.and_eq_true_iff.mp h
        obtain ⟨a1, a2, a3⟩ := tree_facts n d h1
        obtain ⟨b1, b2, b3⟩ := ih h2
        refine ⟨by rw [plains, a1, b1]; rfl, by rw [toPys, PyData.canLayAll0, a2, b2]; rfl, ?_⟩
        rw [toPys, PyData.depthAll]
        omega
    obtain ⟨k1, k2, k3⟩ := key ds h
    refine ⟨by rw [plain]; exact k1, by rw [toPy, PyData.canLay0]; exact k2, ?_⟩
    rw [toPy, PyData.depth]
    omega
  | n + 1, .lst ds, h => by
    have key : ∀ ds : List D, ds.all (treeB n) = true → plains ds = true ∧ PyData.canLayAll0 (toPys ds) = true ∧ PyData.depthAll (toPys ds) ≤ n := by
      intro ds
      induction ds with
      | nil => exact fun _ => ⟨rfl, by simp [toPys, PyData.canLayAll0], by simp [toPys, PyData.depthAll]⟩
      | cons d ds ih =>
        intro h
        rw [List.all_cons] at h
        obtain ⟨h1, h2⟩ := Bool.and_eq_true_iff.mp h
        obtain ⟨a1, a2, a3⟩ := tree_facts n d h1
        obtain ⟨b1, b2, b3⟩ := ih h2
        refine ⟨by rw [plains, a1, b1]; rfl, by rw [toPys, PyData.canLayAll0, a2, b2]; rfl, ?_⟩
        rw [toPys, PyData.depthAll]
        omega
    obtain ⟨k1, k2, k3⟩ := key ds h
    refine ⟨by rw [plain]; exact k1, by rw [toPy, PyData.canLay0]; exact k2, ?_⟩
    rw [toPy, PyData.depth]
    omega
  | n + 1, .bl _, h => by cases h
  | n + 1, .scr _, h => by cases h
  | n + 1, .dic _ _, h => by cases h
  | n + 1, .ins _ _, h => by cases h
  | n + 1, .exn _ _, h => by cases h
  | n + 1, .sel _ _ _, h => by cases h
theorem tree_cmp {n : Nat} {d : D} (h : treeB n d = true) (hn : n ≤ 60) : cmpOk d = true := by
  obtain ⟨a, b, c⟩ := tree_facts n d h
  unfold cmpOk
  rw [a, Bool.true_and]
  exact shaped_flat b (by omega)
theorem tree_eqv : ∀ (n : Nat) (d e : D), treeB n d = true → treeB n e = true → (PyData.eqv (toPy d) (toPy e) = true ↔ d = e) := by
  intro n
  induction n with
  | zero => intro d e h; cases h
  | succ n ih =>
    have all : ∀ ds es : List D, ds.all (treeB n) = true → es.all (treeB n) = true → (PyData.eqvAll (toPys ds) (toPys es) = true ↔ ds = es) := by
      intro ds
      induction ds with
      | nil =>
        intro es _ _
        cases es with
        | nil => simp [toPys, PyData.eqvAll]
        | cons _ _ => simp [toPys, PyData.eqvAll]
      | cons d ds ih2 =>
        intro es h1 h2
        cases es with
        | nil => simp [toPys, PyData.eqvAll]
        | cons e es =>
          rw [List.all_cons] at h1 h2
          obtain ⟨a1, a2⟩ := Bool.and_eq_true_iff.mp h1
          obtain ⟨b1, b2⟩ := Bool.and_eq_true_iff.mp h2
          rw [toPys, toPys, PyData.eqvAll, Bool.and_eq_true, ih d e a1 b1, ih2 es a2 b2]
          constructor
          · rintro ⟨rfl, rfl⟩; rfl
          · intro h; cases h; exact ⟨rfl, rfl⟩
    intro d e h1 h2
    cases d <;> first | (cases h1; done) | skip
    all_goals (cases e <;> first | (cases h2; done) | skip)
    all_goals first
      | (simp [toPy, PyData.eqv]; done)
      | skip
    · rw [toPy, toPy, PyData.eqv, all _ _ h1 h2]
      constructor
      · rintro rfl; rfl
      · intro h; cases h; rfl
    · rw [toPy, toPy, PyData.eqv, all _ _ h1 h2]
      constructor
      · rintro rfl; rfl
      · intro h; cases h; rfl
theorem eqO_self {n : Nat} {d : D} (h : treeB n d = true) (hn : n ≤ 60) : eqO d d = .ok (.bl true) := by
  unfold eqO
  rw [if_pos ⟨tree_cmp h hn, tree_cmp h hn⟩]
  have : eqD d d = true := (tree_eqv n d d h h).mpr rfl
  rw [this]
theorem neO_self {n : Nat} {d : D} (h : treeB n d = true) (hn : n ≤ 60) : neO d d = .ok (.bl false) := by
  unfold neO
  rw [if_pos ⟨tree_cmp h hn, tree_cmp h hn⟩]
  have : eqD d d = true := (tree_eqv n d d h h).mpr rfl
  rw [this]; rfl
theorem eqO_tree {n : Nat} {d e : D} (h : treeB n d = true) (h2 : treeB n e = true) (hn : n ≤ 60) : ∃ b, eqO d e = .ok (.bl b) ∧ neO d e = .ok (.bl (!b)) ∧ (b = true ↔ d = e) := by
  unfold eqO neO
  rw [if_pos ⟨tree_cmp h hn, tree_cmp h2 hn⟩, if_pos ⟨tree_cmp h hn, tree_cmp h2 hn⟩]
  exact ⟨_, rfl, rfl, tree_eqv n d e h h2⟩
theorem any_tree {n : Nat} {d : D} {es : List D} (h : treeB n d = true) (h2 : es.all (treeB n) = true) : (es.any fun z => eqD z d) = true ↔ d ∈ es := by
  rw [List.any_eq_true]
  constructor
  · rintro ⟨z, hz, e⟩
    rw [← (tree_eqv n z d (List.all_eq_true.mp h2 z hz) h).mp e]
    exact hz
  · intro hz
    exact ⟨d, hz, (tree_eqv n d d h h).mpr rfl⟩
theorem inL_tree {n : Nat} {d : D} {es : List D} (h : treeB n d = true) (h2 : es.all (treeB n) = true) (hn : n ≤ 59) : ∃ b, inD d (.lst es) = .ok (.bl b) ∧ notInD d (.lst es) = .ok (.bl (!b)) ∧ (b = true ↔ d ∈ es) := by
  have c : cmpOk (.lst es) = true := tree_cmp (n := n + 1) h2 (by omega)
  refine ⟨es.any fun z => eqD z d, ?_, ?_, any_tree h h2⟩
  · rw [inD_lst, if_pos ⟨tree_cmp h (by omega), c⟩]
  · unfold notInD
    rw [inD_lst, if_pos ⟨tree_cmp h (by omega), c⟩]; rfl
section
variable {l : List (Str × Int)} {b : Bool} {φ : Env → Res D} {env : Env} {s : Str} {i : Int}
theorem inWE_eq : inWE l b φ env = r1 (inW l b) (φ env) := rfl
theorem inW_str : inW l b (.str s) = .ok (.bl ((l.lookup s).isSome != b)) := rfl
theorem ixWE_eq : ixWE l φ env = r1 (ixW l) (φ env) := rfl
theorem lookup_no : ∀ {l : List (Str × Int)} {s : Str}, l.lookup s = none ↔ s ∉ l.map (·.1)
  | [], s => by simp
  | (k, i) :: l, s => by
    rw [List.map_cons, List.mem_cons, List.lookup_cons]
    by_cases c : s = k
    · subst c
      simp
    · have cb : (s == k) = false := by simpa using c
      rw [cb]
      show l.lookup s = none ↔ _
      rw [lookup_no]
      exact ⟨fun h q => q.elim c h, fun h q => h (.inr q)⟩
theorem guardX_ok {d : D} : guardX (.ok d) = .ok d := rfl
end
end VL

set_option maxRecDepth 100000
set_option maxHeartbeats 2000000
set_option autoImplicit false
namespace VL
open PySem L2
def keyOfN : D → Option (Option Key)
  | .non => some none
  | d => (keyOf d).map some
def keysNOf : List D → Option (List (Option Key))
  | [] => some []
  | d :: ds => match keyOfN d with
    | none => none
    | some k => (keysNOf ds).map (k :: ·)
def noneFit (t : Nat) (k : D) : Bool := match t, k with
  | 1, .tup ds => match keysNOf ds with
    | some ks => ks.any fun k => k.isNone
    | none => false
  | _, _ => false
section
variable {P : Program} {w : World} {H : Hp} {h : Heap} {a b : Addr}
end
section
variable {X : Cx} {pins : List (Addr × Obj)} {σ : St} {H : Hp} {s : Shared} {a : Addr} {y : V} {u : Value} {A : Around} {E : Value → Shared → Prop} {Q : Value → Shared → Prop}
end
section
variable {X : Cx} {W : WX} {fl fla flb : Bool} {e a b : Expr} {es : List Expr} {pos : Pos} {φ φa φb : Env → Res D} {φs : Env → Res (List D)}
def isD01 : D → Bool
  | .dic 0 _ => true
  | .dic 1 _ => true
  | _ => false
def getK (d k : D) : Res D := match d with
  | .dic t es => if keyFit t k = true then .ok ((lookD es k).getD .non) else if noneFit t k = true then .ok .non else .bad
  | _ => .bad
def getE (φa φb : Env → Res D) (env : Env) : Res D := (φa env).bind fun d => if isD01 d = true then (φb env).bind (getK d) else .bad
end
section
variable {es : List (D × D)} {k d : D} {t : Nat} {φa φb : Env → Res D} {env : Env}
def rGet1 (a b : Res D) : Res D := a.bind fun d => if isD01 d = true then b.bind (getK d) else .bad
theorem getE_eq : getE φa φb env = rGet1 (φa env) (φb env) := rfl
def rPut (i : Nat) (s : Option Sl) (rv rk : Res D) (env : Env) : SRes := match s with
  | some (.ow (.dic t es)) => ofE rv env fun d => ofE rk env fun k => if keyFit t k = true ∧ es.length < sizeLine then .nx (env.set i (.ow (.dic t (setD es k d)))) else .bad
  | _ => .bad
theorem putS_eq {i : Nat} : putS i φa φb env = rPut i env[i]? (φb env) (φa env) env := rfl
theorem rPut_ok {i : Nat} : rPut i (some (.ow (.dic t es))) (.ok d) (.ok k) env = if keyFit t k = true ∧ es.length < sizeLine then .nx (env.set i (.ow (.dic t (setD es k d)))) else .bad := rfl
end
end VL

set_option maxRecDepth 100000
set_option maxHeartbeats 2000000
set_option autoImplicit false
namespace VL
open PySem L2
section
variable {mg : Gm} {H0 H H' : Hp} {M0 M M' : Addr → Bool} {σ σ' : L2.St} {env env' : Env} {d : Addr} {u : HO} {o : Obj}
end
section
variable {X : Cx} {W : WX} {tg iter : Expr} {sts : List Stmt} {pos : Pos} {γ : D → Env → Option Env} {ψ : Env → SRes} {φ : Env → Res D}
def quiet : SRes → SRes
  | .xc _ _ _ => .bad
  | .ro _ => .bad
  | r => r
end
end VL

set_option maxRecDepth 100000
set_option maxHeartbeats 2000000
set_option autoImplicit false
namespace VL
open PySem L2
section
variable {X : Cx} {W : WX} {tg elt iter : Expr} {ifs : List Expr} {scope : Scope} {own : List (Str × Nat)} {pos : Pos} {γ : D → Env → Option Env} {τ : Env → Res Bool} {φ κ : Env → Res D}
end
structure ClsOk (K : PySem.W.Frag) (mg : Str → Option Value) (c : Str) (fs : List Str) : Prop where
  ex : ∃ C, mg c = some (.ref C) ∧ Cls K C ∧ ∀ f, fs.contains f = true → NoAttr K C f
def fldI (c f : Str) : D → Res D
  | .ins c' gs => if c' = c then (match gs.lookup f with | some d => .ok d | none => .bad) else .bad
  | _ => .bad
def fldIE (c f : Str) (φ : Env → Res D) (env : Env) : Res D := (φ env).bind (fldI c f)
section
variable {X : Cx} {W : WX} {fl : Bool} {e value : Expr} {pos pos' : Pos} {φ : Env → Res D} {c f : Str} {fs : List Str}
end
end VL

set_option maxRecDepth 100000
set_option maxHeartbeats 2000000
set_option autoImplicit false
namespace VL
open PySem L2
section
variable {X : Cx} {CX : CXT} {k : Nat} {C f : Addr} {fd : FuncData} {ps : List Str} {sp : Sp} {x m : Str} {p pos apos : Pos} {o e : Expr} {es : List Expr} {ta : TE} {t : TA} {E : L2.St → XK}
end
structure MethOk (P : Program) (w : World) (K : PySem.W.Frag) (mg : Str → Option Value) (base : Heap) (c m : Str) (k : Nat) (ps : List Str) (n : Nat) (F : List D → Res D) : Prop where
  ex : ∃ (C f : Addr) (fd : FuncData), mg c = some (.ref C) ∧ Cls K C ∧ Meth K C m f ∧ Binds K fd ps [] ∧ FnOk P w K mg base (L2N.CX P w) k f fd ps (spV ⟨P, w, K, mg⟩ n F)
structure RawM (K : PySem.W.Frag) (mg : Str → Option Value) (c m qual : Str) (st : Stmt) (ps : List Str) : Prop where
  ex : ∃ (C f : Addr) (fd : FuncData), mg c = some (.ref C) ∧ Cls K C ∧ Meth K C m f ∧ Fun K m qual st f fd ∧ Binds K fd ps []
section
variable {P : Program} {w : World} {K : PySem.W.Frag} {mg : Str → Option Value} {base : Heap} {c m x qual : Str} {st : Stmt} {N ps : List Str} {k n : Nat} {ψ : Env → SRes} {F G : List D → Res D}
end
def isIns (c m : Str) : D → Bool
  | .ins c' gs => decide (c' = c) && (gs.lookup m).isNone
  | _ => false
def methE (c m : Str) (F : List D → Res D) (φ : Env → Res D) (φs : Env → Res (List D)) (env : Env) : Res D := (φ env).bind fun d => if isIns c m d = true then (φs env).bind fun ds => F (d :: ds) else .bad
section
variable {X : Cx} {W : WX} {fl : Bool} {o e : Expr} {es : List Expr} {pos apos : Pos} {φ : Env → Res D} {φs : Env → Res (List D)} {c m : Str} {k n : Nat} {ps : List Str} {F : List D → Res D}
end
def PostK (mg : Gm) (M : Addr → Bool) (H : Hp) (x : Addr) (Q : VK) (E : XK) : Res D → Prop
  | .ok (.ins c gs) => ∀ (H' : Hp) (C dx : Addr) (fs : List (Str × V)), mg.mg c = some (.ref C) → Ext H H' → H' x = some (.ins C dx fs) → gs.map (·.1) = fs.map (·.1) → RpL mg (Sh M (vw H')) (gs.map (·.2)) (fs.map (·.2)) → Q .non H'
  | .exc c fs => ∀ cls dd H', Ext H H' → RpX mg (Sh M (vw H')) c fs cls dd → E cls dd H'
  | _ => False
def spI (mg : Gm) (c : Str) (n : Nat) (F : Addr → List D → Res D) : Sp := fun vs H1 Q E => ∃ (x C dx : Addr) (vs' : List V) (H : Hp) (M : Addr → Bool) (ds : List D), vs = .ref x :: vs' ∧ vs'.length + 1 = n ∧ mg.mg c = some (.ref C) ∧ H x = none ∧ H dx = none ∧ dx ≠ x ∧
  H1 = upd (upd H dx (.own x)) x (.ins C dx []) ∧ MOk M H ∧ RpL mg (Sh M (vw H)) ds vs' ∧ PostK mg M H x Q E (F x ds)
structure InitOk (P : Program) (w : World) (K : PySem.W.Frag) (mg : Str → Option Value) (base : Heap) (c : Str) (k : Nat) (ps : List Str) (n : Nat) (F : Addr → List D → Res D) : Prop where
  ex : ∃ (C f : Addr) (fd : FuncData), mg c = some (.ref C) ∧ Mk K C f ∧ Binds K fd ps [] ∧ FnOk P w K mg base (L2N.CX P w) k f fd ps (spI ⟨P, w, K, mg⟩ c n F)
structure RawK (K : PySem.W.Frag) (mg : Str → Option Value) (c qual : Str) (st : Stmt) (ps : List Str) : Prop where
  ex : ∃ (C f : Addr) (fd : FuncData), mg c = some (.ref C) ∧ Mk K C f ∧ Fun K "__init__" qual st f fd ∧ Binds K fd ps []
section
variable {P : Program} {w : World} {K : PySem.W.Frag} {mg : Str → Option Value} {base : Heap} {c qual y : Str} {st : Stmt} {N ps : List Str} {k n : Nat} {ψ : Env → SRes} {F : Addr → List D → Res D}
end
open Classical in
section
variable {X : Cx} {W : WX} {fl : Bool} {e : Expr} {es : List Expr} {p pos : Pos} {φs : Env → Res (List D)} {c : Str} {k n : Nat} {ps : List Str} {F : Addr → List D → Res D}
end
end VL

set_option maxRecDepth 100000
set_option maxHeartbeats 2000000
set_option autoImplicit false
namespace VL
open PySem L2 PyProof.Rows
section
variable {prog : Program} {w : World} {A : Around} {E : Value → Shared → Prop} {s : Shared} {vl vu vs : Value} {sl t : Addr}
end
section
variable {X : Cx} {W : WX} {fl : Bool} {e : Expr} {te : TE} {j k : Nat} {p0 p1 p2 p3 pos : Pos} {φ : Env → Res VL.D}
end
section
variable {X : Cx} {W : WX} {tg iter kx vx : Expr} {scope : Scope} {own : List (Str × Nat)} {pos : Pos} {ι : Env → Res (List VL.D)} {γ : VL.D → Env → Option Env} {φk φv : Env → Res VL.D}
end
section
variable {K : PySem.W.Frag} {C : Addr} {f : Str} {fs : List Str}
end
end VL

set_option maxRecDepth 100000
set_option maxHeartbeats 2000000
set_option autoImplicit false
namespace VL
open PySem L2
structure PropOk (P : Program) (w : World) (K : PySem.W.Frag) (mg : Str → Option Value) (base : Heap) (c f : Str) (k : Nat) (F : List D → Res D) : Prop where
  ex : ∃ (C p g : Addr) (fd : FuncData), mg c = some (.ref C) ∧ Cls K C ∧ PropOf K C f p g ∧ Binds K fd ["self"] [] ∧ FnOk P w K mg base (L2N.CX P w) k g fd ["self"] (spV ⟨P, w, K, mg⟩ 1 F)
structure RawP (K : PySem.W.Frag) (mg : Str → Option Value) (c f qual : Str) (st : Stmt) : Prop where
  ex : ∃ (C p g : Addr) (fd : FuncData), mg c = some (.ref C) ∧ Cls K C ∧ PropOf K C f p g ∧ Fun K f qual st g fd ∧ Binds K fd ["self"] []
section
variable {P : Program} {w : World} {K : PySem.W.Frag} {mg : Str → Option Value} {base : Heap} {c m qual : Str} {st : Stmt} {N : List Str} {k : Nat} {ψ : Env → SRes} {F : List D → Res D}
end
def isCls (c : Str) : D → Bool
  | .ins c' _ => decide (c' = c)
  | _ => false
def propE (c : Str) (F : List D → Res D) (φ : Env → Res D) (env : Env) : Res D := (φ env).bind fun d => if isCls c d = true then (match F [d] with | .ok r => .ok r | _ => .bad) else .bad
section
variable {X : Cx} {W : WX} {fl : Bool} {e : Expr} {pos : Pos} {φ : Env → Res D} {c f : Str} {k : Nat} {F : List D → Res D}
end
section
variable {X : Cx} {W : WX} {tg iter kx vx : Expr} {scope : Scope} {own : List (Str × Nat)} {pos : Pos} {γ : D → Env → Option Env} {φk φv κ : Env → Res D}
end
end VL

set_option maxRecDepth 100000
set_option maxHeartbeats 2000000
set_option autoImplicit false
namespace VL
open PySem PySem.W PyProof.Rows
section
variable {prog : Program} {w : World} {K : Type} [DecidableEq K] {knd : HeapKind prog w K} {A : Around} {E : Value → Shared → Prop} {s : Shared}
inductive HitsH (prog : Program) (w : World) (A : Around) (s : Shared) (kb : List (K × Addr × Value)) : List (K × Addr × Value) → Bool → Prop
  | nil : HitsH prog w A s kb [] true
  | miss {k : K} {p : Addr × Value} {r : List (K × Addr × Value)} : atKey kb k = none → HitsH prog w A s kb ((k, p) :: r) false
  | hit {k : K} {p y : Addr × Value} {r : List (K × Addr × Value)} {e b : Bool} : atKey kb k = some y → SeqAt.EqP prog w A s p.2 y.2 e → HitsH prog w A s kb r b → HitsH prog w A s kb ((k, p) :: r) (e && b)
end
end VL

set_option maxRecDepth 100000
set_option maxHeartbeats 2000000
set_option autoImplicit false
namespace VL
open PySem L2 PyProof.Rows
section
variable {P : Program} {w : World} {A : Around} {s : Shared} {H : Hp}
end
section
variable {X : Cx}
end
section
variable {prog : Program} {w : World} {K : Type} [DecidableEq K] {A : Around} {E : Value → Shared → Prop} {s : Shared}
open PySem.W in
open PySem.W in
end
section
variable {P : Program} {w : World} {A : Around} {s : Shared} {H : Hp}
end
section
variable {X : Cx}
end
section
variable {X : Cx} {W : WX} {fl fla flb : Bool}
end
end VL

set_option maxRecDepth 100000
set_option maxHeartbeats 2000000
set_option autoImplicit false
namespace VL
open PySem PySem.Spec PyProof.Rows L2 L2H HotX
section
variable {prog : Program} {w : World} {A : Around} {s : Shared} {E : Value → Shared → Prop}
end
def HG (X : Cx) : Prop := ∀ (pins : List (Addr × Obj)) (σ : L2.St) (H : Hp) (s : Shared), Inv X pins σ H s → X.A.handled = none ∨ ∃ x1, HotAt X.A x1 s.heap
theorem HG.calm {X : Cx} (h : X.A.handled = none) : HG X := fun _ _ _ _ _ => .inl h
theorem HG.base {X : Cx} {a : Addr} {o : Obj} {vs : Array Value} {u : HO} (hh : X.A.handled = some (.ref a)) (hH : X.H_0 a = some (.frz o u)) (hdt : o.data = .fields vs) (hc : vs[2]? = some .none) : HG X :=
  fun _ _ _ _ I => .inr ⟨a, hh, o, vs, (I.hok a _ (I.base.frzs a o u hH)).1, hdt, hc⟩
end VL

set_option maxRecDepth 100000
set_option maxHeartbeats 2000000
set_option autoImplicit false
namespace VL
open PySem PySem.Spec PyProof.Rows L2 L2H HotX
structure TurnG (P : Program) (w : World) (K : PySem.W.Frag) (tg : Expr) (J : It) (fpr : List Addr) (jt : Addr) (tn : Nat → Heap → Prop) : Prop where
  mem : jt ∈ fpr
  obj : ∀ i h, tn i h → ∀ b ∈ fpr, ∃ o, h.get? b = some o ∧ ∀ v, o.data ≠ .cell v
  keep : ∀ i h h', tn i h → (∀ b ∈ fpr, ∀ o, h.get? b = some o → h'.get? b = some o) → tn i h'
  item : ∀ (X : Cx), X.prog = P → X.w = w → X.K = K → HG X → ∀ (i : Nat) (pis : List (Addr × Obj)) (s : Shared) (σ : L2.St) (H : Hp) (E : Value → Shared → Prop), Inv X pis σ H s → (∀ b ∈ fpr, FpOk X pis H b) → tn i s.heap → J.go i H →
    wpAny (model P w) X.A (pyNext (.ref jt)) (fun r s1 => ∃ u, r = some u ∧
      wpAny (model P w) X.A (letOwnedTupleGo tg (.ref jt) u) (fun _ s2 => ∃ x H', Inv X pis σ H' s2 ∧ RelV x u ∧ J.yld i H x H' ∧ tn (i + 1) s2.heap ∧ ∀ b ∈ fpr, H' b = none) E s1) E s
  done : ∀ (X : Cx), X.prog = P → X.w = w → X.K = K → HG X → ∀ (i : Nat) (pis : List (Addr × Obj)) (s : Shared) (σ : L2.St) (H : Hp) (E : Value → Shared → Prop), Inv X pis σ H s → (∀ b ∈ fpr, FpOk X pis H b) → tn i s.heap → J.stop i H →
    wpAny (model P w) X.A (pyNext (.ref jt)) (fun r s1 => r = none ∧ Inv X pis σ H s1) E s
  self : ∀ (A : Around) (i : Nat) (s : Shared) (Q : Value → Shared → Prop) (E : Value → Shared → Prop), tn i s.heap → Q (.ref jt) s → wpAny (model P w) A (pyIter (.ref jt)) Q E s
def PIEG (X : Cx) (pis : List (Addr × Obj)) (σ : L2.St) (tg : Expr) (R : It → Hp → Prop) (itv : Value) (s2 : Shared) : Prop :=
  ∃ (jt : Addr) (fpr : List Addr) (tn : Nat → Heap → Prop) (J : It) (H' : Hp), itv = .ref jt ∧ Inv X pis σ H' s2 ∧ TurnG X.prog X.w X.K tg J fpr jt tn ∧ tn 0 s2.heap ∧ (∀ b ∈ fpr, FpOk X pis H' b) ∧ R J H'
structure PIG (X : Cx) (tg iter : Expr) (wi : TI) : Prop where
  run : ∀ (pis : List (Addr × Obj)) (s : Shared) (σ : L2.St) (H : Hp) (R : It → Hp → Prop), Inv X pis σ H s → wi σ H R →
    wpAny (model X.prog X.w) X.A (eval iter X.env) (fun v s1 => wpAny (model X.prog X.w) X.A (pyIter v) (PIEG X pis σ tg R) X.xe s1) X.xe s
section
variable {X : Cx} {tg : Expr}
end
section
variable {X : Cx} {tg : Expr}
end
section
variable {X : Cx} {W : WX} {tg e iter : Expr} {sts : List Stmt} {pos : Pos} {φ : Env → Res D} {ψ : Env → SRes} {ι : Env → Res (List D)} {γ : D → Env → Option Env}
end
end VL

set_option maxRecDepth 100000
set_option maxHeartbeats 2000000
set_option autoImplicit false
namespace VL
open PySem L2
def HotS (A : Around) (H : Hp) : Prop := A.handled = none ∨ ∃ (a : Addr) (o : Obj) (vs : Array Value) (u : HO), A.handled = some (.ref a) ∧ H a = some (.frz o u) ∧ o.data = .fields vs ∧ vs[2]? = some .none
def HS (X : Cx) : Prop := ∀ (pins : List (Addr × Obj)) (σ : L2.St) (H : Hp) (s : Shared), Inv X pins σ H s → HotS X.A H
theorem HS.calm {X : Cx} (h : X.A.handled = none) : HS X := fun _ _ _ _ _ => .inl h
theorem HS.hg {X : Cx} (h : HS X) : HG X := fun pins σ H s I => (h pins σ H s I).elim .inl fun ⟨a, o, vs, u, h1, h2, h3, h4⟩ => .inr ⟨a, h1, o, vs, (I.hok a _ h2).1, h3, h4⟩
theorem HS.start {X : Cx} (h : HotS X.A X.H_0) : HS X := fun _ _ _ _ I => h.elim .inl fun ⟨a, o, vs, u, h1, h2, h3, h4⟩ => .inr ⟨a, o, vs, u, h1, I.base.frzs a o u h2, h3, h4⟩
structure FnG (P : Program) (w : World) (K : PySem.W.Frag) (mg : Str → Option Value) (base : Heap) (CX : CXT) (k : Nat) (f : Addr) (fd : FuncData) (ps : List Str) (sp : Sp) : Prop where
  len : ∀ vs H Q E, sp vs H Q E → vs.length = ps.length
  run : ∀ (A : Around) (outer : List PySem.Env) (s : Shared) (H : Hp) (args : Args) (us : List Value) (vs : List V) (Q : VK) (E : XK), L2H.RoomH k A → HotS A H → Env0 P w K mg base A outer s H → BindsTo s fd args (ps.zip us) → Vals vs us → sp vs H Q E →
    codeAny (model P w) A (.call (.ref f) args) (CR CX outer P w H s Q E) s
section
variable {P : Program} {w : World} {K : PySem.W.Frag} {mg : Str → Option Value} {base : Heap} {CX : CXT} {x qual : Str} {st : Stmt} {f : Addr} {fd : FuncData} {N ps : List Str} {k n : Nat} {sp : Sp}
theorem FnG.ok (F : FnG P w K mg base CX k f fd ps sp) : FnOk P w K mg base CX k f fd ps sp := ⟨F.len, fun A outer s H args us vs Q E hr => F.run A outer s H args us vs Q E (L2H.roomH_of hr) (.inl hr.hd)⟩
end
structure DefOkG (P : Program) (w : World) (K : PySem.W.Frag) (mg : Str → Option Value) (base : Heap) (x : Str) (k : Nat) (ps : List Str) (n : Nat) (F : List D → Res D) : Prop where
  ex : ∃ (f : Addr) (fd : FuncData), mg x = some (.ref f) ∧ PySem.W.keepIn K (.ref f) = true ∧ Binds K fd ps [] ∧ FnG P w K mg base (L2N.CX P w) k f fd ps (spV ⟨P, w, K, mg⟩ n F)
  lk : ∀ f fd, mg x = some (.ref f) → (∃ oc od osl, K.lookup f = some ⟨oc, od, .func fd, osl⟩) → FnG P w K mg base (L2N.CX P w) k f fd ps (spV ⟨P, w, K, mg⟩ n F)
section
variable {P : Program} {w : World} {K : PySem.W.Frag} {mg : Str → Option Value} {base : Heap} {x qual : Str} {st : Stmt} {N ps : List Str} {k n : Nat} {ψ : Env → SRes} {F G : List D → Res D}
theorem DefOkG.ok (h : DefOkG P w K mg base x k ps n F) : DefOk P w K mg base x k ps n F := by
  obtain ⟨f, fd, h1, h2, h3, h4⟩ := h.ex
  exact ⟨⟨f, fd, h1, h2, h3, h4.ok⟩, fun f fd e1 e2 => (h.lk f fd e1 e2).ok⟩
variable {X : Cx} {W : WX} {fl : Bool} {e : Expr} {es : List Expr} {pos p : Pos} {φs : Env → Res (List D)}
end
end VL

set_option maxRecDepth 100000
set_option maxHeartbeats 2000000
set_option autoImplicit false
namespace VL
open PySem L2
abbrev suiteG (X : Cx) (a : Addr) (oe : Obj) (pn : List (Addr × Obj)) : Cx := { X.suite a pn with H_0 := upd X.H_0 a (.frz oe (.own a)) }
structure Fits (X : Cx) (a : Addr) (oe : Obj) : Prop where
  new : ∀ o, X.s_0.heap.get? a = some o → X.H_0 a = none → False
  tup : ∀ xs, X.H_0 a = some (.tup xs) → False
  tbl : ∀ ps, X.H_0 a = some (.tbl ps) → False
  frz : ∀ o u, X.H_0 a = some (.frz o u) → some (HO.frz o u) = some (.frz oe (.own a))
  nfs : a ∉ X.fs
section
variable {X : Cx} {pins : List (Addr × Obj)} {σ : L2.St} {H : Hp} {s : Shared} {a : Addr} {oe : Obj}
theorem HS.suite {pn : List (Addr × Obj)} {vs : Array Value} (hd : oe.data = .fields vs) (hc : vs[2]? = some .none) : HS (suiteG X a oe pn) :=
  HS.start (.inr ⟨a, oe, vs, .own a, rfl, upd_same, hd, hc⟩)
end
end VL

set_option maxRecDepth 100000
set_option maxHeartbeats 2000000
set_option autoImplicit false
namespace VL
open PySem PySem.Spec PyProof.Rows L2 L2H HotX
section
variable {X : Cx} {tg : Expr}
end
section
variable {X : Cx} {W : WX} {fl : Bool} {tg : Expr} {pos : Pos} {φs : Env → Res (List D)}
end
end VL

set_option maxRecDepth 100000
set_option maxHeartbeats 2000000
namespace VL
open PySem L2

section
variable {X : Cx}
def rCntF (K : PySem.W.Frag) : V → List V → Hp → VK → Prop := fun x xs H Q => ∃ (p : Addr) (ys : List V) (y : V), x = .ref p ∧ xs = [y] ∧ SqL K H p ys ∧ flatV y = true ∧ ys.all flatV = true ∧ Q (.int ((ys.countP fun z => eqV z y : Nat) : Int)) H
theorem countU {x : V} : ∀ {ys : List V} {us : List Value}, Vals ys us → ys.all flatV = true → us.countP (eqU x) = ys.countP fun z => eqV z x
  | _, _, .nil, _ => rfl
  | _, _, .cons r t, f => by
    rw [List.all_cons, Bool.and_eq_true] at f
    rw [List.countP_cons, List.countP_cons, countU t f.2, eqU_of r f.1]
theorem mt_countF : MtR X "list.count" (rCntF X.K) := by
  intro pins s σ H x xs v us Q I rx rxs h
  obtain ⟨p, ys, y, rfl, rfl, hs, fy, fys, q⟩ := h
  cases rx
  obtain ⟨u, rfl, ru⟩ := rxs.one
  obtain ⟨its, rv, ⟨⟨cls, dd, data, sl⟩, n, ho, hc, hdn, hd⟩, hlen⟩ := I.list hs
  simp only at hc hd
  subst hc hd
  refine call_meets PySem.F.slot_list_count ⟨_, ho, rfl⟩ PySem.F.entry_list_count (PySem.F.args_list_count_2 _ _)
    (SeqAt.list_countAt p its.toArray n dd sl u (eqU y)) ⟨ho, fun z hz => mem_eqAt ru fy rv fys z (by simpa using hz), ?_⟩
  refine ⟨.int ((ys.countP fun z => eqV z y : Nat) : Int), H, I.tok _, ⟨s.toks, ?_⟩, q⟩
  show Value.int ((its.toArray.toList.countP (eqU y) : Nat) : Int) s.toks = _
  rw [countU (us := its.toArray.toList) (by simpa using rv) fys]
end
theorem count_eqD {mg : Gm} {G : Vw} {e : D} {w : V} (q : Rp mg G e w) (he : flatD e = true) : ∀ {ds : List D} {vs : List V}, RpL mg G ds vs → ds.all flatD = true → (vs.all flatV = true) ∧ (vs.countP fun y => eqV y w) = ds.countP fun z => eqD z e
  | _, _, .nil, _ => ⟨rfl, rfl⟩
  | _, _, .cons r t, h => by
    rw [List.all_cons] at h
    obtain ⟨h1, h2⟩ := Bool.and_eq_true_iff.mp h
    obtain ⟨i1, i2⟩ := count_eqD q he t h2
    refine ⟨by rw [List.all_cons, i1, flat_of r h1]; rfl, ?_⟩
    rw [List.countP_cons, List.countP_cons, i2, eqV_eq r q h1 he]
theorem find_eqD {mg : Gm} {G : Vw} {e : D} {w : V} (q : Rp mg G e w) (he : flatD e = true) : ∀ {ds : List D} {vs : List V}, RpL mg G ds vs → ds.all flatD = true → (vs.findIdx? fun y => eqV y w) = ds.findIdx? fun z => eqD z e
  | _, _, .nil, _ => rfl
  | _, _, .cons r t, h => by
    rw [List.all_cons] at h
    obtain ⟨h1, h2⟩ := Bool.and_eq_true_iff.mp h
    rw [List.findIdx?_cons, List.findIdx?_cons, find_eqD q he t h2, eqV_eq r q h1 he]
theorem findIdx_at {α : Type} {p : α → Bool} : ∀ {l : List α} {j : Nat}, l.findIdx? p = some j → ∃ z, l[j]? = some z ∧ p z = true ∧ ∀ (m : Nat) (z' : α), m < j → l[m]? = some z' → p z' = false
  | [], j, h => by simp at h
  | a :: l, j, h => by
    rw [List.findIdx?_cons] at h
    by_cases c : p a = true
    · rw [if_pos c] at h
      cases h
      exact ⟨a, rfl, c, fun m z' hm _ => absurd hm (Nat.not_lt_zero m)⟩
    · rw [if_neg c] at h
      cases q : l.findIdx? p with
      | none => rw [q] at h; cases h
      | some k =>
        rw [q] at h
        cases h
        obtain ⟨z, h1, h2, h3⟩ := findIdx_at q
        refine ⟨z, by simpa using h1, h2, fun m z' hm hz => ?_⟩
        cases m with
        | zero =>
          rw [gz_] at hz
          cases hz
          simpa using c
        | succ m => exact h3 m z' (Nat.lt_of_succ_lt_succ hm) (by simpa using hz)

def LmF (X : Cx) (W : WX) (fla flb fl : Bool) (r : V → List V → Hp → VK → Prop) (f : List D → D → Res D) : Prop :=
  ∀ (M : Addr → Bool) (H : Hp) (σ : L2.St) (Q : VK) (a : Addr) (xs : List V) (ds : List D) (e : D) (w : V), MOk M H → vis fla M (vw H) a = some (.lst xs) → RpL (gm X) (vis fla M (vw H)) ds xs → Rp (gm X) (vis flb M (vw H)) e w → PostE X W fl M σ H Q (f ds e) → r (.ref a) [w] H Q
def lmE (f : List D → D → Res D) (φa φb : Env → Res D) (env : Env) : Res D := (φa env).bind fun d => match d with
  | .lst ds => (φb env).bind (f ds)
  | _ => .bad
section
variable {X : Cx} {W : WX} {fl fla flb : Bool} {o e : Expr} {name : Str} {apos pos : Pos} {φa φb : Env → Res D}
theorem ve_lm {id : String} {r : V → List V → Hp → VK → Prop} {f : List D → D → Res D} (slot : Slot "list" name id) (hty : typeOf (.builtin id) = pure (.type "method_descriptor")) (hm : MtR X id r) (hf : LmF X W fla flb fl r f)
    (ha : VE X W fla o φa) (hb : VE X W flb e φb) (hs : starEach [e] X.env = [(false, eval e X.env)] := by rfl) (hbase : attributeBase o name X.env (eval o X.env) = eval o X.env := by rfl) (hline : (apos.endLine == pos.line) = true := by rfl)
    (hfew : ((backTo pos (starEach [e] X.env)).all (fun x => !x.1) && (backToKw pos (keywordEach [] X.env)).all (fun x => x.1.isSome)
      && decide (([e] : List Expr).length + ([] : List Keyword).length + (if ([] : List Keyword).isEmpty then 0 else 1) < 30)) = true := by rfl) (hpl : (backTo pos (starEach ([] : List Expr) X.env)).any (·.1) = false := by rfl) :
    VE X W fl (.Call (.Attribute o name apos) [e] [] pos) (lmE f φa φb) := by
  obtain ⟨ta, pa, ra⟩ := ha
  obtain ⟨tb, pb, rb⟩ := hb
  refine ⟨_, pe_bm PySem.F.plainAttrs_list slot hty hm pa (pa_cons pb pa_nil hs) hbase hfew hline hs hpl, fun H0 M0 M H σ env Q g h => ?_⟩
  refine ra H0 M0 M H σ env _ g (PostE.seq h fun d v H1 e1 r1 h1 => ?_)
  cases r1 <;> first | exact h1.elim | skip
  case lst a xs ds hp rp =>
    refine ⟨.inl ⟨rfl, xs, .inl (vw_lst (vis_get hp))⟩, rb H0 M0 M H1 σ env _ (g.mono e1) (PostE.seq h1 fun d2 v2 H2 e2 r2 h2 => ?_)⟩
    exact hf M H2 σ Q a xs ds d2 v2 ((g.ok.mono e1).mono e2) (vis_mono e2.v _ _ hp) (rp.mono (vis_mono e2.v)) r2 h2
def countD (ds : List D) (e : D) : Res D := if flatD e = true ∧ ds.all flatD = true then .ok (.int ((ds.countP fun z => eqD z e : Nat) : Int)) else .bad
def indexD (ds : List D) (e : D) : Res D := if flatD e = true ∧ ds.all flatD = true then (match ds.findIdx? fun z => eqD z e with
  | some j => .ok (.int (j : Nat))
  | none => .bad) else .bad
theorem lf_count : LmF X W fla flb fl (rCntF X.K) countD := by
  intro M H σ Q a xs ds e w m ha ra re h
  obtain ⟨⟨h1, h2⟩, h⟩ := PostE.ite h
  have re' := re.mono (vis_le flb M _)
  obtain ⟨q1, q2⟩ := count_eqD re' h1 (ra.mono (vis_le fla M _)) h2
  refine ⟨a, xs, w, rfl, rfl, .inl (vw_lst (vis_get ha)), flat_of re' h1, q1, ?_⟩
  rw [q2]
  exact h _ H (Ext.refl _) (.int _)
theorem lf_index : LmF X W fla flb fl (rIndex X.K) indexD := by
  intro M H σ Q a xs ds e w m ha ra re h
  obtain ⟨⟨h1, h2⟩, h⟩ := PostE.ite h
  have re' := re.mono (vis_le flb M _)
  have ra' := ra.mono (vis_le fla M _)
  obtain ⟨q1, _⟩ := count_eqD re' h1 ra' h2
  have q2 := find_eqD re' h1 ra' h2
  cases q : ds.findIdx? fun z => eqD z e with
  | none => rw [q] at h; exact h.elim
  | some j =>
    rw [q] at h
    rw [q] at q2
    obtain ⟨z, z1, z2, z3⟩ := findIdx_at q2
    exact ⟨a, xs, w, j, z, rfl, rfl, .inl (vw_lst (vis_get ha)), flat_of re' h1, q1, z1, z2, z3, h _ H (Ext.refl _) (.int _)⟩
def splitD (a : Str) : D → Res D
  | .str b => if (b.length == 0) = false ∧ a.length + 2 ≤ sizeLine then .ok (.lst ((Txt.split a b).map .str)) else .bad
  | _ => .bad
theorem ve_split (ha : VE X W fla o φa) (hb : VE X W flb e φb) (hs : starEach [e] X.env = [(false, eval e X.env)] := by rfl) (hbase : attributeBase o "split" X.env (eval o X.env) = eval o X.env := by rfl) (hline : (apos.endLine == pos.line) = true := by rfl) :
    VE X W fl (.Call (.Attribute o "split" apos) [e] [] pos) (strE splitD φa φb) := by
  obtain ⟨ta, pa, ra⟩ := ha
  obtain ⟨tb, pb, rb⟩ := hb
  refine ⟨_, pe_split pa pb hs hbase hline, fun H0 M0 M H σ env Q g h => ?_⟩
  refine ra H0 M0 M H σ env _ g (PostE.seq h fun d v H1 e1 r1 h1 => ?_)
  cases r1 <;> first | exact h1.elim | skip
  case str a =>
    refine ⟨⟨a, rfl⟩, rb H0 M0 M H1 σ env _ (g.mono e1) (PostE.seq h1 fun d2 v2 H2 e2 r2 h2 => ?_)⟩
    cases r2 <;> first | exact h2.elim | skip
    case str b =>
      obtain ⟨⟨q1, q2⟩, h2⟩ := PostE.ite h2
      exact ⟨a, b, rfl, rfl, q1, q2, fun p hp => h2 _ _ (Ext.new hp) (rp_newL ((g.ok.mono e1).mono e2) hp (rpl_strs _))⟩
def startsD (a : Str) : D → Res D
  | .str b => .ok (.bl (Txt.startswith a b))
  | _ => .bad
theorem ve_starts (ha : VE X W fla o φa) (hb : VE X W flb e φb) (hs : starEach [e] X.env = [(false, eval e X.env)] := by rfl) (hbase : attributeBase o "startswith" X.env (eval o X.env) = eval o X.env := by rfl) (hline : (apos.endLine == pos.line) = true := by rfl) :
    VE X W fl (.Call (.Attribute o "startswith" apos) [e] [] pos) (strE startsD φa φb) := by
  obtain ⟨ta, pa, ra⟩ := ha
  obtain ⟨tb, pb, rb⟩ := hb
  refine ⟨_, pe_m1 PySem.F.slot_str_startswith PySem.F.type_str_startswith mt_startswith pa pb hs hbase hline, fun H0 M0 M H σ env Q g h => ?_⟩
  refine ra H0 M0 M H σ env _ g (PostE.seq h fun d v H1 e1 r1 h1 => ?_)
  cases r1 <;> first | exact h1.elim | skip
  case str a =>
    refine ⟨⟨a, rfl⟩, rb H0 M0 M H1 σ env _ (g.mono e1) (PostE.seq h1 fun d2 v2 H2 e2 r2 h2 => ?_)⟩
    cases r2 <;> first | exact h2.elim | skip
    case str b => exact ⟨a, b, rfl, rfl, h2 _ H2 (Ext.refl _) (.bl _)⟩
end
end VL

set_option maxRecDepth 100000
set_option maxHeartbeats 2000000
set_option autoImplicit false
namespace VL
open PySem PySem.Spec PyProof.Rows L2 L2H HotX
section
variable {prog : Program} {w : World} {A : Around} {s : Shared} {E : Value → Shared → Prop}
end
section
variable {X : Cx} {tg : Expr}
end
section
variable {X : Cx} {W : WX} {tg e : Expr} {φ : Env → Res D}
end
inductive HdsG (X : Cx) : List ExceptHandler → List (Value × Option Nat × TSx) → Prop
  | nil : HdsG X [] []
  | named {x n : Str} {c : Value} {i : Nat} {ts : TSx} {st1 : Stmt} {sts : List Stmt} {np hp : Pos} {hds : List ExceptHandler} {l : List (Value × Option Nat × TSx)} (hc : Names X x c) (hi : X.N[i]? = some n) (hln : X.env.kindOf n = some .local)
      (hsu : ∀ (a : Addr) (oe : Obj) (cls : Value) (d : Option Addr) (pn : List (Addr × Obj)), L2N.Zn cls d oe → (∃ vs, oe.data = .fields vs) → PSs (suiteG X a oe pn) (st1 :: sts) (ts a oe cls d)) (r : HdsG X hds l) :
      HdsG X (.ExceptHandler (some (.Name x np)) (some n) (st1 :: sts) hp :: hds) ((c, some i, ts) :: l)
  | anon {x : Str} {c : Value} {ts : TSx} {st1 : Stmt} {sts : List Stmt} {np hp : Pos} {hds : List ExceptHandler} {l : List (Value × Option Nat × TSx)} (hc : Names X x c)
      (hsu : ∀ (a : Addr) (oe : Obj) (cls : Value) (d : Option Addr) (pn : List (Addr × Obj)), L2N.Zn cls d oe → (∃ vs, oe.data = .fields vs) → PSs (suiteG X a oe pn) (st1 :: sts) (ts a oe cls d)) (r : HdsG X hds l) :
      HdsG X (.ExceptHandler (some (.Name x np)) none (st1 :: sts) hp :: hds) ((c, none, ts) :: l)
section
variable {X : Cx} {body : List Stmt} {h1 : ExceptHandler} {hds : List ExceptHandler} {l : List (Value × Option Nat × TSx)} {pos : Pos} {tb : WX → TS} {Wout : WX}
end
inductive VHdsG (X : Cx) : List ExceptHandler → List HdD → Prop
  | nil : VHdsG X [] []
  | named {x n : Str} {cv : Value} {cat : List (Str × Bool)} {i : Nat} {χ : Env → SRes} {st1 : Stmt} {sts : List Stmt} {np hp : Pos} {hds : List ExceptHandler} {l : List HdD} (hc : Names X x cv)
      (hcat : ∀ c b, cat.lookup c = some b → ∃ C, X.mg c = some C ∧ PySem.W.exmOne X.K C cv = some b) (hi : X.N[i]? = some n) (hln : X.env.kindOf n = some .local) (hs : ∀ (a : Addr) (oe : Obj) (pn : List (Addr × Obj)), HS (suiteG X a oe pn) → VB (suiteG X a oe pn) W0 (st1 :: sts) χ) (r : VHdsG X hds l) :
      VHdsG X (.ExceptHandler (some (.Name x np)) (some n) (st1 :: sts) hp :: hds) ((cat, some i, χ) :: l)
  | anon {x : Str} {cv : Value} {cat : List (Str × Bool)} {χ : Env → SRes} {st1 : Stmt} {sts : List Stmt} {np hp : Pos} {hds : List ExceptHandler} {l : List HdD} (hc : Names X x cv)
      (hcat : ∀ c b, cat.lookup c = some b → ∃ C, X.mg c = some C ∧ PySem.W.exmOne X.K C cv = some b) (hs : ∀ (a : Addr) (oe : Obj) (pn : List (Addr × Obj)), HS (suiteG X a oe pn) → VB (suiteG X a oe pn) W0 (st1 :: sts) χ) (r : VHdsG X hds l) :
      VHdsG X (.ExceptHandler (some (.Name x np)) none (st1 :: sts) hp :: hds) ((cat, none, χ) :: l)
section
variable {X : Cx}
theorem hs_zn {a : Addr} {oe : Obj} {pn : List (Addr × Obj)} {cls : Value} {d : Option Addr} (z : L2N.Zn cls d oe) (v : ∃ vs, oe.data = .fields vs) : HS (suiteG X a oe pn) := by
  obtain ⟨vs, hd⟩ := v
  exact HS.suite hd (z.2.2 vs hd)
theorem HdsG.of {hds : List ExceptHandler} {l : List HdD} (h : VHdsG X hds l) : ∃ l', HdsG X hds l' ∧
    ∀ (Zp : Value → Option Addr → Obj → Prop) (hZ : ∀ c d o, Zp c d o → Zc c d o) (W : WX) (H0 : Hp) (M0 M : Addr → Bool) (H : Hp) (σ : L2.St) (env : Env) (D : Ends) (c : Str) (fs : List (Str × VL.D)) (cls : Value) (dd : Option Addr), Good (gm X) H0 M0 M H σ env → RpX (gm X) (Sh M (vw H)) c fs cls dd →
      PostS X W H0 M0 M H D (hndS c fs l env) → wHs Zp X.K W D l' cls dd σ H := by
  induction h with
  | nil => exact ⟨[], .nil, fun Zp hZ W H0 M0 M H σ env D c fs cls dd g rx h => h M H σ cls dd g (.refl _) rx⟩
  | @named x n cv cat i χ st1 sts np hp hds l hc hcat hi hln hs r ih =>
    obtain ⟨l', k1, k3⟩ := ih
    refine ⟨(cv, some i, fun _ _ _ _ => tVB X W0 χ) :: l', .named hc hi hln (fun a oe cls d pn z v => vb_canon (Y := X) (hs a oe pn (hs_zn z v)) rfl) k1, fun Zp hZ W H0 M0 M H σ env D c fs cls dd g rx h => ?_⟩
    unfold hndS at h
    cases q : cat.lookup c with
    | none => rw [q] at h; exact h.elim
    | some b =>
      obtain ⟨C, e1, e2⟩ := hcat c b q
      have ec : C = cls := by
        have := rx.1.symm.trans e1
        cases this; rfl
      subst ec
      rw [q] at h
      refine ⟨b, e2, fun hb a oe na z hv => ?_, fun hb => ?_⟩
      · subst hb
        have ex := Ext.new (o := .frz oe (.own a)) na
        exact ⟨H0, M0, M, _, (g.mono ex).set (rp_exn na (g.nm na).1 (hZ _ _ _ z) hv rx), PostS.outI (PostS.mono h (Sh_mono ex.v))⟩
      · subst hb
        exact k3 Zp hZ W H0 M0 M H σ env D c fs _ dd g rx h
  | @anon x cv cat χ st1 sts np hp hds l hc hcat hs r ih =>
    obtain ⟨l', k1, k3⟩ := ih
    refine ⟨(cv, none, fun _ _ _ _ => tVB X W0 χ) :: l', .anon hc (fun a oe cls d pn z v => vb_canon (Y := X) (hs a oe pn (hs_zn z v)) rfl) k1, fun Zp hZ W H0 M0 M H σ env D c fs cls dd g rx h => ?_⟩
    unfold hndS at h
    cases q : cat.lookup c with
    | none => rw [q] at h; exact h.elim
    | some b =>
      obtain ⟨C, e1, e2⟩ := hcat c b q
      have ec : C = cls := by
        have := rx.1.symm.trans e1
        cases this; rfl
      subst ec
      rw [q] at h
      refine ⟨b, e2, fun hb a oe na z hv => ?_, fun hb => ?_⟩
      · subst hb
        have ex := Ext.new (o := .frz oe (.own a)) na
        exact ⟨H0, M0, M, _, g.mono ex, PostS.outI (PostS.mono h (Sh_mono ex.v))⟩
      · subst hb
        exact k3 Zp hZ W H0 M0 M H σ env D c fs _ dd g rx h
end
section
variable {X : Cx} {W : WX} {body : List Stmt} {h1 : ExceptHandler} {hds : List ExceptHandler} {pos : Pos} {ψ : Env → SRes} {l : List HdD}
end
end VL

set_option maxRecDepth 100000
set_option maxHeartbeats 2000000
set_option autoImplicit false
namespace VL
open PySem L2
theorem m_eq {n : Nat} {b : Env → SRes} {ds : List D} {r : Res D} (h : outS (b (env0 n ds)) = r) : defM n b ds = r := h
section
variable {d : D} {env : Env} {c : Str} {fs : List (Str × D)} {hs : List HdD} {γ : D → Env → Option Env} {ψ : Env → SRes} {ι : Env → Res (List D)} {ds : List D} {φ : Env → Res D} {φs : Env → Res (List D)} {m f : Str} {F : List D → Res D}
theorem outS_rt : outS (.rt d) = .ok d := rfl
theorem outS_nx : outS (.nx env) = .ok .non := rfl
theorem outS_xc : outS (.xc c fs env) = .exc c fs := rfl
def rTry (hs : List HdD) : SRes → SRes
  | .xc c fs e => hndS c fs hs e
  | r => r
theorem tryS_eq : tryS ψ hs env = rTry hs (ψ env) := by
  unfold tryS rTry
  cases ψ env <;> rfl
theorem rTry_nx : rTry hs (.nx env) = .nx env := rfl
theorem rTry_rt : rTry hs (.rt d) = .rt d := rfl
theorem rTry_xc : rTry hs (.xc c fs env) = hndS c fs hs env := rfl
theorem hndS_eq {cat : List (Str × Bool)} {on : Option Nat} {χ : Env → SRes} {r : List HdD} : hndS c fs ((cat, on, χ) :: r) env = match cat.lookup c with
    | some true => outI on (χ (inE on c fs env))
    | some false => hndS c fs r env
    | none => .bad := rfl
def rMeth (c m : Str) (F : List D → Res D) (a : Res D) (b : Res (List D)) : Res D := a.bind fun d => if isIns c m d = true then b.bind fun ds => F (d :: ds) else .bad
theorem methE_eq : methE c m F φ φs env = rMeth c m F (φ env) (φs env) := rfl
theorem rMeth_ok : rMeth c m F (.ok d) (.ok ds) = if isIns c m d = true then F (d :: ds) else .bad := rfl
def rProp (c : Str) (F : List D → Res D) (a : Res D) : Res D := a.bind fun d => if isCls c d = true then (match F [d] with | .ok r => .ok r | _ => .bad) else .bad
theorem propE_eq : propE c F φ env = rProp c F (φ env) := rfl
theorem rProp_ok : rProp c F (.ok d) = if isCls c d = true then (match F [d] with | .ok r => .ok r | _ => .bad) else .bad := rfl
def rLm (f : List D → D → Res D) (a b : Res D) : Res D := a.bind fun d => match d with
  | .lst ds => b.bind (f ds)
  | _ => .bad
theorem lmE_eqR {f : List D → D → Res D} {φa φb : Env → Res D} : lmE f φa φb env = rLm f (φa env) (φb env) := rfl
theorem rLm_ok {f : List D → D → Res D} {e : D} : rLm f (.ok (.lst ds)) (.ok e) = f ds e := rfl
theorem fldIE_eqR : fldIE c f φ env = r1 (fldI c f) (φ env) := rfl
end
def outP : Res D → Post
  | .ok d => { rt := fun x => x = d, nx := fun _ => d = .non }
  | .exc c fs => { xc := fun x y _ => x = c ∧ y = fs }
  | .bad => {}
theorem m_out {n : Nat} {b : Env → SRes} {ds : List D} {r : Res D} (h : Sat (outP r) (b (env0 n ds))) : defM n b ds = r := by
  unfold defM
  cases r with
  | ok d =>
    cases q : b (env0 n ds) <;> rw [q] at h <;> first | exact h.elim | skip
    case nx e => exact congrArg Res.ok (show D.non = d from (show d = .non from h).symm)
    case rt x => exact congrArg Res.ok (show x = d from h)
  | exc c fs =>
    cases q : b (env0 n ds) <;> rw [q] at h <;> first | exact h.elim | skip
    case xc x y e =>
      obtain ⟨h1, h2⟩ := h
      rw [h1, h2]; rfl
  | bad => cases q : b (env0 n ds) <;> rw [q] at h <;> exact h.elim
def runL {α σ : Type} (step : σ → α → σ ⊕ Res D) (s : σ) : List α → σ ⊕ Res D
  | [] => .inl s
  | a :: xs => match step s a with
    | .inl s' => runL step s' xs
    | .inr o => .inr o
def stepP {σ : Type} (R : σ → Env → Prop) : σ ⊕ Res D → Post
  | .inl s => { nx := R s, ct := R s }
  | .inr (.ok d) => { rt := fun x => x = d }
  | .inr (.exc c fs) => { xc := fun x y _ => x = c ∧ y = fs }
  | .inr .bad => {}
def endK {σ : Type} (P : Post) (R : σ → Env → Prop) : σ ⊕ Res D → Prop
  | .inl s => ∀ env, R s env → P.nx env
  | .inr (.ok d) => P.rt d
  | .inr (.exc c fs) => ∀ env, P.xc c fs env
  | .inr .bad => True
theorem Sat.runL {α σ : Type} {P : Post} {γ : D → Env → Option Env} {ψ : Env → SRes} {f : α → D} {step : σ → α → σ ⊕ Res D} {R : σ → Env → Prop} : ∀ {xs : List α} {s : σ} {env : Env},
    (∀ s a env, a ∈ xs → R s env → ∃ env1, γ (f a) env = some env1 ∧ Sat (stepP R (step s a)) (ψ env1)) → R s env → endK P R (VL.runL step s xs) → Sat P (forL γ ψ (xs.map f) env)
  | [], s, env, _, h0, hk => hk env h0
  | a :: xs, s, env, h, h0, hk => by
    obtain ⟨env1, e1, h1⟩ := h s a env (List.mem_cons_self ..) h0
    show Sat P (match γ (f a) env with | none => SRes.bad | some env1 => flowL (ψ env1) (forL γ ψ (xs.map f)))
    rw [e1]
    show Sat P (flowL (ψ env1) (forL γ ψ (xs.map f)))
    have hk' : endK P R (match step s a with | .inl s' => VL.runL step s' xs | .inr o => .inr o) := hk
    cases q : step s a with
    | inl s' =>
      rw [q] at h1 hk'
      have go : ∀ env, R s' env → Sat P (forL γ ψ (xs.map f) env) := fun env hr => Sat.runL (fun s a env ha => h s a env (List.mem_cons_of_mem _ ha)) hr hk'
      cases z : ψ env1 <;> rw [z] at h1 <;> first | exact h1.elim | exact go _ h1
    | inr o =>
      rw [q] at h1 hk'
      cases o with
      | ok d =>
        cases z : ψ env1 <;> rw [z] at h1 <;> first | exact h1.elim | skip
        case rt x =>
          have e : x = d := h1
          rw [e]; exact hk'
      | exc c fs =>
        cases z : ψ env1 <;> rw [z] at h1 <;> first | exact h1.elim | skip
        case xc x y e =>
          obtain ⟨q1, q2⟩ := h1
          rw [q1, q2]; exact hk' e
      | bad => cases z : ψ env1 <;> rw [z] at h1 <;> exact h1.elim
theorem Sat.run {α σ : Type} {P : Post} {γ : D → Env → Option Env} {ψ : Env → SRes} {ι : Env → Res (List D)} {env : Env} (xs : List α) (f : α → D) (step : σ → α → σ ⊕ Res D) (R : σ → Env → Prop) (s : σ) (hi : ι env = .ok (xs.map f)) (h0 : R s env)
    (h : ∀ s a env, a ∈ xs → R s env → ∃ env1, γ (f a) env = some env1 ∧ Sat (stepP R (step s a)) (ψ env1)) (hk : endK P R (VL.runL step s xs)) : Sat P (VL.forS γ ι ψ env) := by
  unfold VL.forS ofA
  rw [hi]
  exact Sat.runL h h0 hk
end VL

set_option maxRecDepth 100000
set_option maxHeartbeats 2000000
set_option autoImplicit false
namespace VL
open PySem L2

section
variable {X : Cx} {W : WX} {fl fla flb : Bool}
end

def tyNames : List String := ["NoneType", "bool", "int", "str", "tuple", "list", "dict"]
structure ClsQ (K : PySem.W.Frag) (mg : Str → Option Value) (c : Str) : Prop where
  ex : ∃ C, mg c = some (.ref C) ∧ Cls K C ∧ PySem.W.findIn K (.ref C) "__class__" = some (some (.builtin "object.__class__")) ∧ PySem.W.specialIn K (.builtin "object.__class__") "__get__" = some (some (.builtin "getset_descriptor.__get__")) ∧
    PySem.W.takesIn K (.builtin "object.__class__") = some true ∧ PySem.W.mroIn K C (.type "object") = some true ∧ ∀ S ∈ tyNames, PySem.W.kitOne K (.type S) (.ref C) = some false
section
variable {X : Cx} {W : WX} {fl fla : Bool} {e : Expr} {pos : Pos} {φ : Env → Res D}
end

section
variable {X : Cx} {W : WX} {fl fla flb : Bool} {e e2 : Expr} {es : List Expr} {pos : Pos} {φ φi : Env → Res D} {φs : Env → Res (List D)}
end

section
variable {X : Cx} {W : WX}
end
section
variable {X : Cx} {W : WX} {tg iter : Expr} {sts : List Stmt} {pos : Pos} {γ : D → Env → Option Env} {ψ : Env → SRes} {φ : Env → Res D}
end
end VL

set_option maxRecDepth 100000
set_option maxHeartbeats 2000000
set_option autoImplicit false
namespace VL
open PySem L2
section
variable {X : Cx} {W : WX} {tg iter tg1 iter1 elt : Expr} {ifs ifs1 : List Expr} {scope : Scope} {pos : Pos} {ι ι1 : Env → Res (List D)} {γ γ1 : D → Env → Option Env} {τ τ1 : Env → Res Bool} {φ : Env → Res D}
end
end VL

set_option maxRecDepth 100000
set_option maxHeartbeats 2000000
set_option autoImplicit false
namespace VL
open PySem L2
end VL

set_option maxRecDepth 100000
set_option maxHeartbeats 2000000
set_option autoImplicit false
namespace VL
open PySem PySem.Spec PyProof.Rows L2 NdefX LamX
def cutH (h : Heap) (n : Nat) : Heap := { h with objs := h.objs.extract 0 n }
theorem cutH_size (h : Heap) (n : Nat) (l : n ≤ h.objs.size) : (cutH h n).objs.size = n := by
  show (h.objs.extract 0 n).size = n
  rw [Array.size_extract]
  omega
theorem cutH_at (h : Heap) (n b : Nat) : (cutH h n).objs[b]? = if b < n then h.objs[b]? else none := by
  show (h.objs.extract 0 n)[b]? = _
  rw [Array.getElem?_extract]
  by_cases e : b < n
  · rw [if_pos e]
    by_cases q : b < h.objs.size
    · rw [if_pos (by omega), Nat.zero_add]
    · rw [if_neg (by omega), Array.getElem?_eq_none (by omega)]
  · rw [if_neg e, if_neg (by omega)]
theorem cutH_get {h : Heap} {n : Nat} {b : Addr} {o : Obj} : (cutH h n).get? b = some o ↔ b < n ∧ h.get? b = some o := by
  unfold Heap.get?
  rw [cutH_at]
  by_cases e : b < n
  · rw [if_pos e]
    exact ⟨fun q => ⟨e, q⟩, fun q => q.2⟩
  · rw [if_neg e]
    exact ⟨(fun q => by cases q), fun q => absurd q.1 e⟩
section
variable {X : Cx} {pins : List (Addr × Obj)} {σ : L2.St} {H : Hp} {s : Shared}
theorem inv_cut {n : Nat} (I : Inv X pins σ H s) (t : ∀ b o, H b = some o → b < n) (l : X.env.locals < n) (cl : ∀ x a, X.env.cells.lookup x = some a → a < n) (p : ∀ q ∈ X.pn ++ pins, q.1 < n) : Inv X pins σ H { s with heap := cutH s.heap n } := by
  have below : ∀ {b : Addr} {o : Obj}, X.s_0.heap.get? b = some o → b < n := fun {b o} e => Nat.lt_trans (Nat.lt_of_lt_of_le (Heap.lt_size e) I.ok.above) l
  have cellK : ∀ {x : Str} {c : Addr} {v : Option Value}, X.env.cells.lookup x = some c → s.heap.IsCell c v → (cutH s.heap n).IsCell c v := fun {x c v} e ⟨o, ho, hd⟩ => ⟨o, cutH_get.mpr ⟨cl x c e, ho⟩, hd⟩
  refine ⟨I.ok, I.os, I.bare, ⟨fun c o q z hc hx => cutH_get.mpr ⟨below q, I.base.keep c o q z hc hx⟩, fun c o q z hc hx => ?_, I.base.free, fun c o q hx => ?_, I.base.tups, I.base.frzs, I.base.tbls⟩, ?_, fun x c e => ?_, I.free, I.freeC, fun q hq => ?_, fun b ob e => ?_, I.len⟩
  · obtain ⟨sl, q1⟩ := I.base.slot c o q z hc hx
    exact ⟨sl, cutH_get.mpr ⟨below q, q1⟩⟩
  · obtain ⟨o', q1⟩ := I.base.there c o q hx
    exact ⟨o', cutH_get.mpr ⟨below q, q1⟩⟩
  · obtain ⟨m, hn, hl⟩ := I.loc
    refine ⟨m, hn.at' fun o e => cutH_get.mpr ⟨l, e⟩, fun i x v h1 h2 h3 => ?_⟩
    obtain ⟨u, r, q⟩ := hl i x v h1 h2 h3
    refine ⟨u, r, ?_⟩
    rcases q with q | ⟨k, c, h, hc⟩
    · exact .inl q
    · exact .inr ⟨k, c, h, cellK h hc⟩
  · obtain ⟨v, hc⟩ := I.cell x c e
    exact ⟨v, cellK e hc⟩
  · obtain ⟨a1, a2⟩ := I.pin q hq
    exact ⟨cutH_get.mpr ⟨p q hq, a1⟩, a2⟩
  · refine (I.hok b ob e).stay (fun c w' hc q => cutH_get.mpr ⟨?_, q⟩) (fun _ q => q) fun _ _ q => q
    rcases hc with rfl | hc
    · exact t _ _ e
    · exact t _ _ hc
end
theorem store_eq {ev ev' : PySem.Env} {y : Str} {c : Addr} {v : Value} (k : ev.scope.kind = .function) (k' : ev'.scope.kind = .function) (h : ev.kindOf y = some .cell) (h' : ev'.kindOf y = some .free) (e : ev.cells.lookup y = some c) (e' : ev'.cells.lookup y = some c) :
    storeName ev' y v = storeName ev y v := by
  unfold storeName PySem.cellOf
  simp only [h, h', k, k', e, e']
  rfl
section
variable {X : Cx} {pins : List (Addr × Obj)} {σ : L2.St} {H : Hp} {CX : CXT} {F : NdefX.NF} {f : Addr} {N ps fr : List Str} {us : List Value} {vs : List V} {ws : List (Option V)} {Q : VK} {E : XK} {rest : List Stmt} {t : TS}
abbrev CRb (CX : CXT) (X : Cx) (pins : List (Addr × Obj)) (σ : L2.St) (H : Hp) (Q : VK) (E : XK) (r : Result) (s' : Shared) : Prop := ∃ sb, Inv X pins σ H sb ∧ CR CX X.stack X.prog X.w H sb Q E r s'
theorem take_rest {sb s4 : Shared} {n : Nat} (hn : sb.heap.objs.size = n) (Ib : Inv X pins σ H sb) (S : NScope N ps fr F.scope) (hd : X.A.handled = none) (hl : vs.length = ps.length) (r : Vals vs us) (C : CellsAt F.cl fr ws sb.heap H)
    (hns : s4.heap.Ns n fun y => (ps.zip us).reverse.lookup y) (kp : ∀ b o, sb.heap.get? b = some o → s4.heap.get? b = some o) (es : s4 = { sb with heap := s4.heap, toks := s4.toks })
    (ht : PSs (ncx CX X.prog X.w X.K X.mg X.base N F f X.A X.stack sb H E) rest t) (hq : t { nx := fun _ H' => Q .non H', rt := Q } (startF N vs ws) H) :
    wpAny (model X.prog X.w) (X.A.deeper (envF F f n)) (execs rest (envF F f n)) (fun fl s' => CRb CX X pins σ H Q E (.ok (.ret (match fl with | .ret v => v | _ => .none))) s')
      (fun e s' => wpAny (model X.prog X.w) (X.A.deeper (envF F f n)) (leaving (envF F f n) e) (fun _ s'' => CRb CX X pins σ H Q E (.error e) s'') (fun e' s'' => CRb CX X pins σ H Q E (.error e') s'') s') s4 := by
  subst hn
  have I : Inv (ncx CX X.prog X.w X.K X.mg X.base N F f X.A X.stack sb H E) [] (startF N vs ws) H s4 := by
    rw [es]
    exact inv_startN S hd Ib.env0 hl r C hns kp
  have fin : ∀ {σ' : L2.St} {H' : Hp} {v : V} {u : Value} {s' : Shared}, Inv (ncx CX X.prog X.w X.K X.mg X.base N F f X.A X.stack sb H E) [] σ' H' s' → L2.RelV v u → Q v H' → CRb CX X pins σ H Q E (.ok (.ret u)) s' :=
    fun {σ' H' v u s'} J rv q => ⟨sb, Ib, v, H', J.os, J.bare, J.base, J.hok, rv, q⟩
  refine wpAny_mono (ht.run [] s4 (startF N vs ws) H _ I hq) (fun fl s' hs => ?_) fun e s' hs => ?_
  · cases fl with
    | ret u =>
      obtain ⟨v, σ', H', J, rv, q⟩ := hs
      exact fin J rv q
    | next =>
      obtain ⟨σ', H', J, q⟩ := hs
      exact fin (v := V.non) (u := Value.none) J rfl q
    | brk =>
      obtain ⟨_, _, _, q⟩ := hs
      exact False.elim q
    | cont =>
      obtain ⟨_, _, _, q⟩ := hs
      exact False.elim q
  · exact wpAny_mono hs (fun _ s'' h => ⟨sb, Ib, h⟩) fun _ s'' h => ⟨sb, Ib, h⟩
theorem run_take {k jn : Nat} {s : Shared} {y : Str} {n : Int} {js : List Nat} {p1 p2 p3 pc : Pos} {kc : Nat} (I : Inv X pins σ H s) (hr : Room (k + 1) X.A) (hx : L2.PassesAt CX X (σ.set jn (some (.int (n + 1)))) E) (hf : H f = some (FnO f F)) (hc : H F.c = some (CodeO F.c F.qual)) (S : NScope N ps fr F.scope) (cp : Caps X F.cl fr js)
    (hN : X.N.Nodup) (hj : X.N[jn]? = some y) (hy : y ∈ fr) (hcell : X.env.scope.names.lookup y = some .cell) (hfn : X.fn y = true) (hv : σ[jn]? = some (some (.int n)))
    (hb : ∀ (doc pm ctv : Value) (us : List Value), us.length = ps.length → bindArgs (F.fd doc pm ctv) ⟨us, []⟩ = pure (ps.zip us)) (hl : vs.length = ps.length) (r : Vals vs us)
    (hbody : F.body = .Nonlocal [y] p1 :: .AugAssign (.Name y p2) .Add (.Constant (.int 1) kc pc) p3 :: rest)
    (hrun : ∀ sb : Shared, Inv X pins (σ.set jn (some (.int (n + 1)))) H sb → ∃ t, PSs (ncx CX X.prog X.w X.K X.mg X.base N F f X.A X.stack sb H E) rest t ∧ t { nx := fun _ H' => Q .non H', rt := Q } (startF N vs (js.map (slotAt (σ.set jn (some (.int (n + 1))))))) H)
    (hcd : (y == ("__classdict__" : Str)) = false := by decide) :
    wpAny (model X.prog X.w) X.A (call (.ref f) us) (EP X pins (σ.set jn (some (.int (n + 1)))) Q) X.xe s := by
  have e0 := I.env0
  have lim : s.heap.NoLimit := e0.mod.nolimit.keeps fun b o e => (e0.bs b o e).1
  obtain ⟨od, sl, doc, pm, ctv, ho⟩ := fnO_at I.hok hf
  refine wpAny_call (codeAny_mono (R := CRb CX X pins (σ.set jn (some (.int (n + 1)))) H Q E) ?_ fun r s' hq => ?_)
  · refine codeAny_call_function hr.depth ho rfl S.co S.gen rfl (codeO_at I.hok hc) ?_
    rw [hb doc pm ctv us (by rw [← r.length]; exact hl)]
    refine wpAny_pure (wpAny_newFunctionEnv S.nocell (fun ⟨n, _⟩ hy => S.par n (List.of_mem_zip hy).1) (fun h₁ hns hsb => ⟨lim.fresh _ hsb, ?_⟩) S.kind)
    show codeAny _ _ (.func F.body (envF F f s.heap.objs.size)) _ _
    have kp1 : ∀ b o, s.heap.get? b = some o → h₁.get? b = some o := fun b o e => hsb.extBut b o (Nat.ne_of_lt (Heap.lt_size e)) (Heap.get?_push_of_some _ e)
    have sz1 : s.heap.objs.size < h₁.objs.size := by
      obtain ⟨o1, _, _, ho1, _⟩ := id hns
      exact Heap.lt_size ho1
    refine codeAny_func ?_
    rw [hbody]
    -- the count
    have I1 : Inv X pins σ H { s with heap := h₁, toks := s.toks + (ps.zip us).length } := I.kept kp1
    obtain ⟨m, hnm, hlm⟩ := id I1.loc
    obtain ⟨u0, r0, l0⟩ := hlm jn y (.int n) hj hv (.inr (.inl hcell))
    obtain ⟨tk0, rfl⟩ := r0
    have hky : X.env.kindOf y = some .cell := hcell
    obtain ⟨c, hcc, hcv⟩ : ∃ c, X.env.cells.lookup y = some c ∧ h₁.IsCell c (some (.int n tk0)) := by
      rcases l0 with ⟨z, _⟩ | ⟨_, c, z1, z2⟩
      · rw [hky] at z; cases z
      · exact ⟨c, z1, z2⟩
    have hcl : F.cl.lookup y = some c := cp.sup y hy c hcc
    have hkf : (envF F f s.heap.objs.size).kindOf y = some .free := S.frk y hy
    refine wpAny_execs_cons (wpAny_Nonlocal ?_)
    refine wpAny_execs_cons (wpAny_AugAssign_Name (wpAny_loadName_free S.kind hkf hcl hcv ?_ hcd))
    refine wpAny_Constant_int ?_
    refine iadd_int ?_
    rw [store_eq (ev := X.env) I.ok.kind S.kind hky hkf hcc hcl]
    refine store_ok2 (v := .int (n + 1)) ((I1.tok _).tok _) hN hj (.inr hcell) ⟨_, rfl⟩ (fun s4 I4 same => ?_) (.inl hfn)
    obtain ⟨a, hs, ha⟩ := same
    have lL : X.env.locals < s.heap.objs.size := by
      obtain ⟨m, ⟨o, _, _, ho, _⟩, _⟩ := I.loc
      exact Heap.lt_size ho
    have lC : ∀ x b, X.env.cells.lookup x = some b → b < s.heap.objs.size := fun x b e => by
      obtain ⟨v, z⟩ := I.cell x b e
      exact z.lt
    have la : a < s.heap.objs.size := ha.elim (fun e => e ▸ lL) fun e => lC y a e
    have Ib : Inv X pins (σ.set jn (some (.int (n + 1)))) H { s4 with heap := cutH s4.heap s.heap.objs.size } := inv_cut I4 (fun b o e => by
      refine Nat.lt_of_not_le fun hb => ?_
      rw [I.hok.fresh hb] at e
      cases e) lL lC fun q hq => Heap.lt_size (I.pin q hq).1
    have hns4 : s4.heap.Ns s.heap.objs.size fun x => (ps.zip us).reverse.lookup x := hns.sameBut hs (Nat.ne_of_gt la)
    have sz4 : s.heap.objs.size ≤ s4.heap.objs.size := by
      obtain ⟨o1, _, _, ho1, _⟩ := id hns4
      exact Nat.le_of_lt (Heap.lt_size ho1)
    obtain ⟨t, ht, hq⟩ := hrun _ Ib
    exact take_rest (cutH_size _ _ sz4) Ib S hr.hd hl r (cells_of Ib cp) hns4 (fun b o e => (cutH_get.mp e).2) rfl ht hq
  · cases r with
    | error e =>
      obtain ⟨sb, Ib, q⟩ := hq
      exact hx pins H sb e s' Ib q
    | ok fl =>
      obtain ⟨sb, Ib, q⟩ := hq
      cases fl with
      | ret u => exact Ib.after q
      | next => exact False.elim q
      | brk => exact False.elim q
      | cont => exact False.elim q
end
end VL

set_option maxRecDepth 100000
set_option maxHeartbeats 2000000
set_option autoImplicit false
namespace VL
open PySem L2
def PostKp (X : Cx) (W : WX) (H0 : Hp) (M0 M : Addr → Bool) (H : Hp) (v : Option (Option V)) (i : Nat) (Q : L2.St → Hp → Prop) : SRes → Prop
  | .nx env => ∀ M' H' σ', Good (gm X) H0 M0 M' H' σ' env → VEx (Sh M (vw H)) (Sh M' (vw H')) → σ'[i]? = v → Q σ' H'
  | .xc c fs env => ∀ M' H' σ' cls dd, Good (gm X) H0 M0 M' H' σ' env → VEx (Sh M (vw H)) (Sh M' (vw H')) → RpX (gm X) (Sh M' (vw H')) c fs cls dd → W cls dd σ' H'
  | _ => False
def VSK (X : Cx) (W : WX) (i : Nat) (st : Stmt) (ψ : Env → SRes) : Prop :=
  ∃ t : TS, PS X st t ∧ ∀ (H0 : Hp) (M0 M : Addr → Bool) (H : Hp) (σ : L2.St) (env : Env) (D : Ends), Good (gm X) H0 M0 M H σ env → PostKp X W H0 M0 M H σ[i]? i D.nx (ψ env) → t D σ H
def VBK (X : Cx) (W : WX) (i : Nat) (st : List Stmt) (ψ : Env → SRes) : Prop :=
  ∃ t : TS, PSs X st t ∧ ∀ (H0 : Hp) (M0 M : Addr → Bool) (H : Hp) (σ : L2.St) (env : Env) (D : Ends), Good (gm X) H0 M0 M H σ env → PostKp X W H0 M0 M H σ[i]? i D.nx (ψ env) → t D σ H
section
variable {X : Cx} {W : WX} {i : Nat} {st : Stmt} {sts : List Stmt} {e : Expr} {pos : Pos} {ψ χ : Env → SRes} {φ : Env → Res VL.D} {τ : Env → Res Bool} {fla : Bool} {Q : L2.St → Hp → Prop}
theorem PostKp.mono {H0 H H' : Hp} {M0 M M' : Addr → Bool} {v : Option (Option V)} {r : SRes} (h : PostKp X W H0 M0 M H v i Q r) (e : VEx (Sh M (vw H)) (Sh M' (vw H'))) : PostKp X W H0 M0 M' H' v i Q r := by
  cases r with
  | nx env => exact fun M2 H2 σ2 g e2 hv => h M2 H2 σ2 g (e.trans e2) hv
  | xc c fs env => exact fun M2 H2 σ2 cls dd g e2 r2 => h M2 H2 σ2 cls dd g (e.trans e2) r2
  | _ => exact h
theorem vbk_one (h1 : VSK X W i st ψ) : VBK X W i [st] ψ := by
  obtain ⟨t, p, r⟩ := h1
  exact ⟨_, pss_one p, r⟩
theorem vbk_nil : VBK X W i [] nxS := ⟨_, pss_nil, fun H0 M0 M H σ env D g h => h M H σ g (.refl _) rfl⟩
theorem vsk_if {a b : List Stmt} (hc : VT X W e τ) (ha : VBK X W i a ψ) (hb : VBK X W i b χ) : VSK X W i (.If e a b pos) (ifS τ ψ χ) := by
  obtain ⟨t, p, r⟩ := hc
  obtain ⟨ta, pa, ra⟩ := ha
  obtain ⟨tb, pb, rb⟩ := hb
  refine ⟨_, ps_if p pa pb, fun H0 M0 M H σ env D g h => ?_⟩
  refine r H0 M0 M H σ env _ g ?_
  unfold ifS ofT at h
  cases q : τ env with
  | bad => rw [q] at h; exact h
  | exc c fs => rw [q] at h; exact fun cls dd H1 e1 r1 => h M H1 σ cls dd (g.mono e1) (Sh_mono e1.v) r1
  | ok k =>
    rw [q] at h
    intro H1 e1
    cases k with
    | true => rw [if_pos rfl]; exact ra H0 M0 M H1 σ env D (g.mono e1) (PostKp.mono h (Sh_mono e1.v))
    | false => rw [if_neg Bool.false_ne_true]; exact rb H0 M0 M H1 σ env D (g.mono e1) (PostKp.mono h (Sh_mono e1.v))
theorem vsk_app (j : Nat) {x : Str} {px apos cpos : Pos} (h : VE X W true e φ) (hN : X.N[j]? = some x := by rfl) (hv : Vis X.env.scope x := by first | exact Or.inl rfl | exact Or.inr (Or.inl rfl) | exact Or.inr (Or.inr rfl))
    (hp : ∀ (ta : TE) (r : PE X (.Name x px) ta) (tb : TA) (rb : PA X [e] tb), PE X (.Call (.Attribute (.Name x px) "append" apos) [e] [] cpos) (tBM X.K "list" rAppend ta tb) := by exact fun _ r _ rb => pe_bm PySem.F.plainAttrs_list PySem.F.slot_list_append PySem.F.type_list_append mt_append r rb)
    (hd : (x == ("__debug__" : Str)) = false := by decide) (hcd : (x == ("__classdict__" : Str)) = false := by decide)
    (hs : swapsWith (.Call (.Attribute (.Name x px) "append" apos) [e] [] cpos) none pos.line X.env = pure false := by rfl) (hst : starEach (e :: []) X.env = (false, eval e X.env) :: starEach [] X.env := by rfl) :
    VSK X W i (.Expr (.Call (.Attribute (.Name x px) "append" apos) [e] [] cpos) pos) (appS j φ) := by
  obtain ⟨t, p, r⟩ := h
  refine ⟨_, ps_expr (hp _ (pe_var hN hv hd hcd) _ (pa_cons p pa_nil hst)) hs, fun H0 M0 M H σ env D g h => ?_⟩
  unfold appS at h
  cases q : env[j]? with
  | none => rw [q] at h; exact h.elim
  | some s =>
    rw [q] at h
    cases s with
    | no => exact h.elim
    | sh d => exact h.elim
    | ow d =>
      cases d with
      | lst ds =>
        obtain ⟨p', hv', mp, m0, xs, hx, rx⟩ := g.sl j _ q
        refine ⟨_, hv', .inl ⟨rfl, _, SqL.of hx⟩, ?_⟩
        refine r H0 M0 M H σ env _ g ?_
        have h : PostKp X W H0 M0 M H σ[i]? i D.nx (ofE (φ env) env fun d => if ds.length < sizeLine then .nx (env.set j (.ow (.lst (ds ++ [d])))) else .bad) := h
        unfold ofE at h
        cases q1 : φ env with
        | bad => rw [q1] at h; exact h
        | exc c fs => rw [q1] at h; exact fun cls dd H1 e1 r1 => h M H1 σ cls dd (g.mono e1) (Sh_mono e1.v) r1
        | ok d =>
          rw [q1] at h
          intro v H1 e1 r1
          have h : PostKp X W H0 M0 M H σ[i]? i D.nx (if ds.length < sizeLine then .nx (env.set j (.ow (.lst (ds ++ [d])))) else .bad) := h
          by_cases hc : ds.length < sizeLine
          · rw [if_pos hc] at h
            have rx1 := rx.mono (Sh_mono e1.v)
            refine ⟨p', xs, v, rfl, rfl, e1 _ _ hx, by rw [← rx.length]; exact hc, ?_⟩
            have rr : OwOk (gm X) M (upd H1 p' (.lst (xs ++ [v]))) p' (.lst (ds ++ [d])) := ⟨_, upd_same, by rw [sh_mut mp]; exact rx1.append (.cons r1 .nil)⟩
            exact h M _ σ ((g.mono e1).mut q hv' rr) (by rw [sh_mut mp]; exact Sh_mono e1.v) rfl
          · rw [if_neg hc] at h; exact h.elim
      | _ => exact h.elim
end
section
variable {mg : Gm} {H0 H : Hp} {M0 M : Addr → Bool} {σ : L2.St} {env : Env}
def dropH (H : Hp) (p : Addr) : Hp := fun a => if a = p then none else H a
theorem dropH_at {H : Hp} {p a : Addr} (h : a ≠ p) : dropH H p a = H a := if_neg h
theorem dropH_no {H : Hp} {p : Addr} : dropH H p p = none := if_pos rfl
theorem dropH_ext {H : Hp} {p : Addr} : Ext (dropH H p) H := .of fun a u h => by
  by_cases c : a = p
  · rw [c, dropH_no] at h; cases h
  · rw [dropH_at c] at h; exact h
theorem mok_drop {p : Addr} (m : MOk M H) (mp : M p = true) : MOk (subM M p) (dropH H p) := by
  have ne : ∀ {a}, subM M p a = true → a ≠ p ∧ M a = true := fun {a} h => by
    have c : a ≠ p := fun e => by rw [e, subM_self] at h; cases h
    rw [subM_ne c] at h
    exact ⟨c, h⟩
  refine ⟨fun a h => ?_, fun a xs h => ?_, fun a fs h => ?_, m.tb.but (m.nc p · mp) fun a c => dropH_at c, fun a u h => ?_⟩
  all_goals (obtain ⟨c, h1⟩ := ne h; rw [dropH_at c])
  · exact m.dom a h1
  · exact m.tup a xs h1
  · exact m.xd a fs h1
  · exact m.nc a u h1
theorem good_take (g : Good mg H0 M0 M H σ env) {i : Nat} {p : Addr} {d1 d : D} {x : V} (q : env[i]? = some (.ow d1)) (hv : σ[i]? = some (some (.ref p))) (rx : Rp mg (Sh M (vw H)) d x) (n : Int) :
    Good mg (dropH H p) (subM M p) M H [some x, some (.ref p), some (.int n)] [.sh d, .ow d1, .sh (.int n)] := by
  obtain ⟨p', e1, mp, m0, o⟩ := g.sl i _ q
  rw [hv] at e1
  cases e1
  refine ⟨rfl, g.ok, fun a h => ?_, fun a h => ?_, mok_drop g.ok mp, dropH_ext, fun j s h => ?_, fun j k a hne h1 h2 => ?_⟩
  · by_cases c : a = p
    · rw [c]; exact mp
    · rw [subM_ne c] at h; exact h
  · by_cases c : a = p
    · rw [c]; exact .inr dropH_no
    · rw [subM_ne c]; exact .inl h
  · match j, h with
    | 0, h => cases h; exact ⟨x, rfl, rx⟩
    | 1, h => cases h; exact ⟨p, rfl, mp, subM_self, o⟩
    | 2, h => cases h; exact ⟨.int n, rfl, .int n⟩
    | j + 3, h => cases h
  · match j, k, hne, h1, h2 with
    | 0, _, _, h1, _ => cases h1
    | 2, _, _, h1, _ => cases h1
    | j + 3, _, _, h1, _ => cases h1
    | 1, 0, _, _, h2 => cases h2
    | 1, 2, _, _, h2 => cases h2
    | 1, k + 3, _, _, h2 => cases h2
    | 1, 1, hne, _, _ => exact absurd rfl hne
theorem ext_drop (g : Good mg H0 M0 M H σ env) {i : Nat} {p : Addr} {d1 : D} (q : env[i]? = some (.ow d1)) (hv : σ[i]? = some (some (.ref p))) : Ext H0 (dropH H p) := by
  obtain ⟨p', e1, mp, m0, o⟩ := g.sl i _ q
  rw [hv] at e1
  cases e1
  have h0p : H0 p = none := (g.new p mp).resolve_left (by rw [m0]; exact Bool.false_ne_true)
  exact ⟨fun a u h => by
    have c : a ≠ p := fun e => by rw [e, h0p] at h; cases h
    rw [dropH_at c]; exact g.ex a u h, fun t => (g.ex.t t).but (g.ok.nc p · mp) fun a c => dropH_at c⟩
theorem sub_drop (g : Good mg H0 M0 M H σ env) {i : Nat} {p : Addr} {d1 : D} (q : env[i]? = some (.ow d1)) (hv : σ[i]? = some (some (.ref p))) (a : Addr) (h : M0 a = true) : subM M p a = true := by
  obtain ⟨p', e1, mp, m0, o⟩ := g.sl i _ q
  rw [hv] at e1
  cases e1
  have c : a ≠ p := fun e => by rw [e, m0] at h; cases h
  rw [subM_ne c]; exact g.sub a h
theorem good_back (g : Good mg H0 M0 M H σ env) {i : Nat} {p : Addr} {d1 d2 : D} {H2 : Hp} {M2 : Addr → Bool} {σ2 : L2.St} {env2 : Env} (q : env[i]? = some (.ow d1)) (hv : σ[i]? = some (some (.ref p))) (only : ∀ j, j ≠ i → isOw env[j]? = false)
    (g2 : Good mg (dropH H p) (subM M p) M2 H2 σ2 env2) (q2 : env2[1]? = some (.ow d2)) (hv2 : σ2[1]? = some (some (.ref p))) (ve : VEx (Sh M (vw H)) (Sh M2 (vw H2))) : Good mg H0 M0 M2 H2 σ (env.set i (.ow d2)) := by
  obtain ⟨p', e1, mp, m0, o⟩ := g.sl i _ q
  rw [hv] at e1
  cases e1
  obtain ⟨p2, e2, mp2, _, o2⟩ := g2.sl 1 _ q2
  rw [hv2] at e2
  cases e2
  have h0p : H0 p = none := (g.new p mp).resolve_left (by rw [m0]; exact Bool.false_ne_true)
  have hil : i < env.length := (List.getElem?_eq_some_iff.mp q).1
  have e0 : Ext H0 (dropH H p) := ⟨fun a u h => by
    have c : a ≠ p := fun e => by rw [e, h0p] at h; cases h
    rw [dropH_at c]; exact g.ex a u h, fun t => (g.ex.t t).but (g.ok.nc p · mp) fun a c => dropH_at c⟩
  refine ⟨by rw [List.length_set]; exact g.len, g2.ok, fun a h => g2.sub a ?_, fun a h => ?_, g.ok0, e0.trans g2.ex, fun j s h => ?_, fun j k a hne h1 h2 => ?_⟩
  · have c : a ≠ p := fun e => by rw [e, m0] at h; cases h
    rw [subM_ne c]; exact g.sub a h
  · by_cases c : a = p
    · rw [c]; exact .inr h0p
    · rcases g2.new a h with z | z
      · rw [subM_ne c] at z; exact g.new a z
      · rw [dropH_at c] at z; exact .inr (g.ex.fresh z)
  · by_cases c : j = i
    · rw [c, List.getElem?_set_self hil] at h
      cases h
      rw [c]
      exact ⟨p, hv, mp2, m0, o2⟩
    · rw [get_set_ne c] at h
      cases s with
      | no => trivial
      | sh d =>
        obtain ⟨x, h1, h2⟩ := g.sl j _ h
        exact ⟨x, h1, h2.mono ve⟩
      | ow d =>
        have z := only j c
        rw [h] at z
        cases z
  · by_cases c : j = i
    · have c2 : k ≠ i := fun e => hne (c.trans e.symm)
      rw [get_set_ne c2, only k c2] at h2
      cases h2
    · rw [get_set_ne c, only j c] at h1
      cases h1
end
end VL

set_option maxRecDepth 100000
set_option maxHeartbeats 2000000
set_option autoImplicit false
namespace VL
open PySem L2
theorem cx_up {P : Program} {w : World} {outer : List PySem.Env} {H : Hp} {s s' : Shared} {E : XK} {u : Value} (c : L2N.CX P w outer H s E u s') : L2.CX P w outer H s E u s' := by
  obtain ⟨a, B, H', cls, d, e, fl, r⟩ := c
  exact ⟨a, B, H', cls, d, e, L2H.flyingZ_imp (fun _ z => z.zc) fl, r⟩
theorem pmk_up {X : Cx} {e : Expr} {t : L2.St → Hp → XK → Prop} (h : L2N.PMk X e t) : L2.PMk X e t := fun pins s σ H Q I q =>
  thn (h pins s σ H Q I q) fun u s1 ⟨a, oe, vs, sI, H1, cls, d, e1, J, k, hne, ha, hz, r⟩ => ⟨a, oe, vs, sI, H1, cls, d, e1, J, k, hne, ha, hz.zc, r⟩
section
variable {P : Program} {w : World} {K : PySem.W.Frag} {mg : Str → Option Value} {base : Heap} {f : Addr} {fd : FuncData} {ps : List Str} {k : Nat} {sp : Sp}
theorem fn_up (F : FnOk P w K mg base (L2N.CX P w) k f fd ps sp) : FnOk P w K mg base (L2.CX P w) k f fd ps sp :=
  ⟨F.len, fun A outer s H args us vs Q E hr e0 b r h => codeAny_mono (F.run A outer s H args us vs Q E hr e0 b r h) fun r s1 q => by
    cases r with
    | ok fl => cases fl <;> exact q
    | error e => exact cx_up q⟩
end
section
variable {X : Cx} {W : WX} {fl : Bool} {e : Expr} {es : List Expr} {pos p : Pos} {φs : Env → Res (List D)} {F : List D → Res D} {k n : Nat} {x : Str} {f : Addr} {fd : FuncData} {ps : List Str}
theorem ve_call2 (tk : L2.Takes X W) (hF : FnOk X.prog X.w X.K X.mg X.base (L2.CX X.prog X.w) k f fd ps (spV (gm X) n F)) (hr : Room k X.A) (hm : X.mg x = some (.ref f)) (hk : PySem.W.keepIn X.K (.ref f) = true) (hb : Binds X.K fd ps [])
    (ha : VA X W true (e :: es) φs) (hn : (e :: es).length = n) (hl : ∀ env ds, φs env = .ok ds → ds.length = n) (hg : Gl X x := by rfl) (hdb : (x == ("__debug__" : Str)) = false := by decide)
    (he : starEach (e :: es) X.env = (false, eval e X.env) :: starEach es X.env := by rfl) (hpl : (backTo pos (starEach es X.env)).any (·.1) = false := by rfl) : VE X W fl (.Call (.Name x p) (e :: es) [] pos) (aE F φs) := by
  obtain ⟨t, pt, r⟩ := ha
  refine ⟨_, pe_callS hF hr hg hm hk hb (fun σ => L2.passAt tk σ) pt hdb he hpl, fun H0 M0 M H σ env Q g h => ?_⟩
  have h0 : PostE X W fl M σ H Q ((φs env).bind F) := h
  refine r H0 M0 M H σ env _ g ?_
  cases q : φs env with
  | ok ds =>
    rw [q] at h0
    intro vs H1 e1 r1
    refine ⟨(r1.length.symm).trans (hl env ds q), M, ds, g.ok.mono e1, r1, ?_⟩
    have h1 : PostE X W fl M σ H1 Q (F ds) := PostE.mono h0 e1
    cases z : F ds with
    | ok d => rw [z] at h1; exact fun v H2 e2 r2 => h1 v H2 e2 (r2.mono (Sh_vis fl M _))
    | exc c fs => rw [z] at h1; exact fun cls dd H2 e2 r2 => h1 cls dd H2 e2 r2
    | bad => rw [z] at h1; exact h1
  | exc c fs => rw [q] at h0; exact h0
  | bad => rw [q] at h0; exact h0
theorem ve_callb2 (tk : L2.Takes X W) (hF : FnOk X.prog X.w X.K X.mg X.base (L2.CX X.prog X.w) k f fd ps (spV (gm X) n F)) (hr : Room k X.A) (hm : X.mg x = some (.ref f)) (hk : PySem.W.keepIn X.K (.ref f) = true) (hb : Binds X.K fd ps [])
    (ha : VA X W false (e :: es) φs) (hn : (e :: es).length = n) (hl : ∀ env ds, φs env = .ok ds → ds.length = n) (hg : Gl X x := by rfl) (hdb : (x == ("__debug__" : Str)) = false := by decide)
    (he : starEach (e :: es) X.env = (false, eval e X.env) :: starEach es X.env := by rfl) (hpl : (backTo pos (starEach es X.env)).any (·.1) = false := by rfl) : VE X W false (.Call (.Name x p) (e :: es) [] pos) (aE (fun ds => guardX (F ds)) φs) := by
  obtain ⟨t, pt, r⟩ := ha
  refine ⟨_, pe_callS hF hr hg hm hk hb (fun σ => L2.passAt tk σ) pt hdb he hpl, fun H0 M0 M H σ env Q g h => ?_⟩
  have h0 : PostE X W false M σ H Q ((φs env).bind fun ds => guardX (F ds)) := h
  refine r H0 M0 M H σ env _ g ?_
  cases q : φs env with
  | ok ds =>
    rw [q] at h0
    intro vs H1 e1 r1
    refine ⟨(r1.length.symm).trans (hl env ds q), fun _ => false, ds, MOk.empty (g.ok.mono e1).tb, r1.mono (fun a u hu => by rw [Sh_of rfl]; exact hu), ?_⟩
    have h1 : PostE X W false M σ H1 Q (guardX (F ds)) := PostE.mono h0 e1
    cases z : F ds with
    | ok d => rw [z] at h1; exact fun v H2 e2 r2 => h1 v H2 e2 (r2.mono (Sh_le _ _))
    | exc c fs =>
      rw [z] at h1
      obtain ⟨hi, h1⟩ := PostE.ite (c := immuts fs = true) (r := .exc c fs) h1
      intro cls dd H2 e2 r2
      refine h1 cls dd H2 e2 ?_
      obtain ⟨q1, q2 | ⟨d, vs', q2, q3, q4, q5⟩⟩ := r2
      · exact ⟨q1, .inl q2⟩
      · refine ⟨q1, .inr ⟨d, vs', q2, ?_, q4, rpl_imm (fun a xs hx => ?_) q5 hi⟩⟩
        · rw [Sh_of]
          · exact (Sh_some q3).2
          · cases mm : M d with
            | false => rfl
            | true => exact absurd (vw_xd (Sh_some q3).2) (((g.ok.mono e1).mono e2).xd d vs' mm)
        · rw [Sh_of]
          · exact (Sh_some hx).2
          · cases mm : M a with
            | false => rfl
            | true => exact absurd (vw_tup (Sh_some hx).2) (((g.ok.mono e1).mono e2).tup a xs mm)
    | bad => rw [z] at h1; exact h1
  | exc c fs => rw [q] at h0; exact h0
  | bad => rw [q] at h0; exact h0
end
theorem fn_v2 {P : Program} {w : World} {K : PySem.W.Frag} {mg : Str → Option Value} {base : Heap} {x qual : Str} {st : Stmt} {f : Addr} {fd : FuncData} {N ps : List Str} {k n : Nat} {ψ : Env → SRes} (F : Fun K x qual st f fd) (S : FnScope N ps (defScope st)) (hn : ps.length = n)
    (body : ∀ (cdv : Value) (A : Around) (outer : List PySem.Env) (s : Shared) (H : Hp) (E : XK), Room k (A.deeper (PyProof.Rows.envOfC qual (defScope st) s.heap.objs.size f cdv)) →
      L2.Takes (cxOf (L2.CX P w) P w K mg base N qual (defScope st) f cdv A outer s H E) (WB E) →
      PassesOwn (model P w) (A.deeper (PyProof.Rows.envOfC qual (defScope st) s.heap.objs.size f cdv)) (PyProof.Rows.envOfC qual (defScope st) s.heap.objs.size f cdv) (cxOf (L2.CX P w) P w K mg base N qual (defScope st) f cdv A outer s H E).xe →
      VB (cxOf (L2.CX P w) P w K mg base N qual (defScope st) f cdv A outer s H E) (WB E) (defBody st) ψ) :
    FnOk P w K mg base (L2.CX P w) (k + 1) f fd ps (spV ⟨P, w, K, mg⟩ n (defM N.length ψ)) := by
  refine fun_okN F S (fun vs H Q E h => h.1.trans hn.symm) fun cdv A outer s H vs Q E hr h => ?_
  obtain ⟨hl, M, ds, m, r, post⟩ := h
  obtain ⟨t, p, rr⟩ := body cdv A outer s H E hr (L2.takes_of rfl rfl rfl rfl) (passes_of rfl)
  refine ⟨t, p, rr H M M H _ (env0 N.length ds) _ (good0 m r) ?_⟩
  unfold defM at post
  cases q : ψ (env0 N.length ds) with
  | rt d => rw [q] at post; exact fun v H' e r' => post v H' e r'
  | nx env => rw [q] at post; exact fun M' H' σ' g e => post .non H' g.ex .non
  | bk env => rw [q] at post; exact post.elim
  | ct env => rw [q] at post; exact post.elim
  | xc c fs env =>
    rw [q] at post
    exact fun M' H' σ' cls dd g e r' => post cls dd H' g.ex (r'.mono (Good.rt (X := cxOf (L2.CX P w) P w K mg base N qual (defScope st) f cdv A outer s H E) g))
  | bad => rw [q] at post; exact post
  | ro d => rw [q] at post; exact post.elim

structure DefOk2 (P : Program) (w : World) (K : PySem.W.Frag) (mg : Str → Option Value) (base : Heap) (x : Str) (k : Nat) (ps : List Str) (n : Nat) (F : List D → Res D) : Prop where
  ex : ∃ (f : Addr) (fd : FuncData), mg x = some (.ref f) ∧ PySem.W.keepIn K (.ref f) = true ∧ Binds K fd ps [] ∧ FnOk P w K mg base (L2.CX P w) k f fd ps (spV ⟨P, w, K, mg⟩ n F)
structure LawOk2 (P : Program) (w : World) (K : PySem.W.Frag) (mg : Str → Option Value) (base : Heap) (x : Str) (k : Nat) (ps : List Str) (n : Nat) (F : List D → Res D) : Prop where
  lk : ∀ f fd, mg x = some (.ref f) → (∃ oc od osl, K.lookup f = some ⟨oc, od, .func fd, osl⟩) → FnOk P w K mg base (L2.CX P w) k f fd ps (spV ⟨P, w, K, mg⟩ n F)
structure DefOkO2 (P : Program) (w : World) (K : PySem.W.Frag) (mg : Str → Option Value) (base : Heap) (x : Str) (k : Nat) (ps : List Str) (n : Nat) (F : List D → Res D) : Prop where
  ex : ∃ (f : Addr) (fd : FuncData), mg x = some (.ref f) ∧ PySem.W.keepIn K (.ref f) = true ∧ Binds K fd ps [] ∧ FnOk P w K mg base (L2.CX P w) k f fd ps (spO ⟨P, w, K, mg⟩ n F)
section
variable {P : Program} {w : World} {K : PySem.W.Frag} {mg : Str → Option Value} {base : Heap} {x qual : Str} {st : Stmt} {N ps : List Str} {k n : Nat} {ψ : Env → SRes} {F G : List D → Res D}
theorem DefOk.two (h : DefOk P w K mg base x k ps n F) : DefOk2 P w K mg base x k ps n F := by
  obtain ⟨f, fd, h1, h2, h3, h4⟩ := h.ex
  exact ⟨⟨f, fd, h1, h2, h3, fn_up h4⟩⟩
theorem ow_rp {mg : Gm} {M : Addr → Bool} {H : Hp} {p : Addr} {d : D} (hm : M p = false) (o : OwOk mg (addM M p) H p d) : Rp mg (Sh M (vw H)) d (.ref p) := o.give.mono fun a u h => by
  obtain ⟨h1, h2⟩ := Sh_some h
  rw [Sh_of]
  · exact h2
  · by_cases c : a = p
    · rw [c]; exact hm
    · rw [subM_ne c, addM_ne c] at h1; exact h1
theorem DefOkO2.sh (h : DefOkO2 P w K mg base x k ps n F) : DefOk2 P w K mg base x k ps n F := by
  obtain ⟨f, fd, h1, h2, h3, h4⟩ := h.ex
  refine ⟨⟨f, fd, h1, h2, h3, h4.imp fun vs H Q E s => ?_⟩⟩
  obtain ⟨hl, M, ds, m, r, post⟩ := s
  refine ⟨hl, M, ds, m, r, ?_⟩
  cases z : F ds with
  | ok d =>
    rw [z] at post
    intro p H' e hp o
    refine post _ H' e (ow_rp ?_ o)
    cases q : M p with
    | false => rfl
    | true => obtain ⟨u, hu⟩ := m.dom p q; rw [hp] at hu; cases hu
  | exc c fs => rw [z] at post; exact post
  | bad => rw [z] at post; exact post
theorem def_v2 (N : List Str) (ψ : Env → SRes) (R : Raw K mg x st ps) (S : FnScope N ps (defScope st)) (hn : ps.length = n) (hF : F = defM N.length ψ)
    (body : ∀ (f : Addr) (cdv : Value) (A : Around) (outer : List PySem.Env) (s : Shared) (H : Hp) (E : XK), Room k (A.deeper (PyProof.Rows.envOfC x (defScope st) s.heap.objs.size f cdv)) →
      L2.Takes (cxOf (L2.CX P w) P w K mg base N x (defScope st) f cdv A outer s H E) (WB E) →
      PassesOwn (model P w) (A.deeper (PyProof.Rows.envOfC x (defScope st) s.heap.objs.size f cdv)) (PyProof.Rows.envOfC x (defScope st) s.heap.objs.size f cdv) (cxOf (L2.CX P w) P w K mg base N x (defScope st) f cdv A outer s H E).xe →
      VB (cxOf (L2.CX P w) P w K mg base N x (defScope st) f cdv A outer s H E) (WB E) (defBody st) ψ) :
    DefOk2 P w K mg base x (k + 1) ps n F := by
  subst hF
  obtain ⟨f, fd, h1, h2, h3⟩ := R.ex
  exact ⟨⟨f, fd, h1, h2.kp, h3, fn_v2 h2 S hn (body f)⟩⟩
theorem def_l2 (N : List Str) (ψ : Env → SRes) (R : Raw K mg x st ps) (S : FnScope N ps (defScope st)) (hn : ps.length = n) (hF : F = defM N.length ψ)
    (body : ∀ (f : Addr) (cdv : Value) (A : Around) (outer : List PySem.Env) (s : Shared) (H : Hp) (E : XK), Room k (A.deeper (PyProof.Rows.envOfC x (defScope st) s.heap.objs.size f cdv)) →
      L2.Takes (cxOf (L2.CX P w) P w K mg base N x (defScope st) f cdv A outer s H E) (WB E) →
      PassesOwn (model P w) (A.deeper (PyProof.Rows.envOfC x (defScope st) s.heap.objs.size f cdv)) (PyProof.Rows.envOfC x (defScope st) s.heap.objs.size f cdv) (cxOf (L2.CX P w) P w K mg base N x (defScope st) f cdv A outer s H E).xe →
      VB (cxOf (L2.CX P w) P w K mg base N x (defScope st) f cdv A outer s H E) (WB E) (defBody st) ψ) :
    LawOk2 P w K mg base x (k + 1) ps n F := by
  subst hF
  obtain ⟨f, fd, h1, h2, h3⟩ := R.ex
  refine ⟨fun f' fd' e h => ?_⟩
  rw [h1] at e
  cases e
  obtain ⟨_, _, _, h⟩ := h
  obtain ⟨_, _, _, _, _, _, _, _, _, _, h', _⟩ := h2.ex
  rw [h'] at h
  cases h
  exact fn_v2 h2 S hn (body f)
theorem law_fin2 {fa f : Addr} {fd : FuncData} {oc : Value} {od : Option Addr} {sl : Array (Option Value)}
    (h : LawOk2 P w K mg base x k ps 1 F) (hfa : mg x = some (.ref fa)) (hf : mg x = some (.ref f)) (l : K.lookup f = some ⟨oc, od, .func fd, sl⟩) (e : ∀ ns : List Int, ns.length ≤ 63 → (∀ z ∈ ns, Builtin.Int.intBits z ≤ 1048576) → F [.scr ns] = .ok (.bl true)) :
    FnOk P w K mg base (L2.CX P w) k fa fd ps (spEnd K) := by
  rw [hfa] at hf
  cases hf
  exact end_of (h.lk _ _ hfa ⟨_, _, _, l⟩) e
theorem cx_end2 (P : Program) (w : World) (H : Hp) (s : Shared) (e : Value) (s' : Shared) (h : L2.CX P w [] H s (fun _ _ _ => False) e s') : False := by
  obtain ⟨_, _, _, _, _, _, _, _, _, _, _, _, z⟩ := h
  exact z
variable {X : Cx} {W : WX} {fl : Bool} {e : Expr} {es : List Expr} {pos p : Pos} {φs : Env → Res (List D)}
theorem ve_def2 (h : DefOk2 X.prog X.w X.K X.mg X.base x k ps n F) (tk : L2.Takes X W) (hr : Room k X.A) (ha : VA X W true (e :: es) φs) (hn : (e :: es).length = n) (hl : ∀ env ds, φs env = .ok ds → ds.length = n) (hg : Gl X x := by rfl) (hdb : (x == ("__debug__" : Str)) = false := by decide)
    (he : starEach (e :: es) X.env = (false, eval e X.env) :: starEach es X.env := by rfl) (hpl : (backTo pos (starEach es X.env)).any (·.1) = false := by rfl) : VE X W fl (.Call (.Name x p) (e :: es) [] pos) (aE F φs) := by
  obtain ⟨f, fd, h1, h2, h3, h4⟩ := h.ex
  exact ve_call2 tk h4 hr h1 h2 h3 ha hn hl hg hdb he hpl
theorem ve_defb2 (h : DefOk2 X.prog X.w X.K X.mg X.base x k ps n F) (tk : L2.Takes X W) (hr : Room k X.A) (ha : VA X W false (e :: es) φs) (hn : (e :: es).length = n) (hl : ∀ env ds, φs env = .ok ds → ds.length = n) (hg : Gl X x := by rfl) (hdb : (x == ("__debug__" : Str)) = false := by decide)
    (he : starEach (e :: es) X.env = (false, eval e X.env) :: starEach es X.env := by rfl) (hpl : (backTo pos (starEach es X.env)).any (·.1) = false := by rfl) : VE X W false (.Call (.Name x p) (e :: es) [] pos) (aE (fun ds => guardX (F ds)) φs) := by
  obtain ⟨f, fd, h1, h2, h3, h4⟩ := h.ex
  exact ve_callb2 tk h4 hr h1 h2 h3 ha hn hl hg hdb he hpl
end
section
variable {X : Cx} {W : WX} {x : Str} {j : Nat} {p pos pos2 cpos : Pos} {e : Expr} {es : List Expr} {φs : Env → Res (List VL.D)}
theorem rsd_ask {H0 H : Hp} {M0 M : Addr → Bool} {σ : L2.St} {env : Env} {D : Ends} {ns : List Str} {C : Addr} {t : TA} (hl : ns.length ≤ 900) (hm : X.mg x = some (.ref C)) (g : Good (gm X) H0 M0 M H σ env)
    (r : ∀ (Q : List V → Hp → Prop), PostA X W true M σ H Q (φs env) → t σ H Q) (h : PostS X W H0 M0 M H D (raiseS x ns φs env)) : tMkO C (spIn C ns) [] t σ H fun cls d H1 => W cls d σ H1 := by
  refine r _ ?_
  unfold raiseS at h
  cases q : φs env with
  | bad => rw [q] at h; exact h
  | exc c fs => rw [q] at h; exact fun cls dd H1 e1 r1 => h M H1 σ cls dd (g.mono e1) (Sh_mono e1.v) r1
  | ok ds =>
    rw [q] at h
    intro vs H1 e1 r1
    have h1 : PostS X W H0 M0 M H D (if ds.length = ns.length then SRes.xc x (ns.zip ds).reverse env else .bad) := h
    obtain ⟨hn, h2⟩ := PostS.ite h1
    have hvn : vs.length = ns.length := by rw [← r1.length]; exact hn
    refine ⟨by omega, fun a ha => ⟨a, vs, by rw [List.append_nil], hvn, upd_same, fun dx hdx hne => ⟨rfl, dx, (ns.zip vs).reverse, upd_same, (upd_ne hne).trans upd_same, ?_, ?_⟩⟩⟩
    · rw [upd_ne hne] at hdx; exact hdx
    · rw [upd_ne hne] at hdx
      have eq : upd (del (upd (upd (upd H1 a (exo a C none)) dx (exd dx (ns.zip vs).reverse)) a (exo a C (some dx))) a) dx (.xd (ns.zip vs).reverse) = upd H1 dx (.xd (ns.zip vs).reverse) := by
        funext b
        by_cases eb : b = dx
        · subst eb; rw [upd_same, upd_same]
        · rw [upd_ne eb, upd_ne eb]
          by_cases ea : b = a
          · subst ea; rw [del_same, ha]
          · rw [del_ne ea, upd_ne ea, upd_ne eb, upd_ne ea]
      rw [eq]
      have ex := Ext.new (o := .xd (ns.zip vs).reverse) hdx
      have g1 := g.mono e1
      refine h2 M _ σ _ (some dx) (g1.mono ex) (Sh_mono (e1.trans ex).v) ⟨hm, .inr ⟨dx, (ns.zip vs).reverse, rfl, ?_, ?_, ?_⟩⟩
      · rw [Sh_of (g1.nm hdx).1]
        exact vw_upd_same trivial
      · rw [List.map_reverse, List.map_reverse, zip_keys hn, zip_keys hvn]
      · rw [List.map_reverse, List.map_reverse, zip_vals hn, zip_vals hvn]
        exact (r1.mono (Sh_mono ex.v)).reverse
theorem vs_raise2 {ns : List Str} (hc : X.calm = true) (tk : L2.Takes X W) (hr : Room 2 X.A) (hE : ExI X.prog X.w X.K X.mg X.base x ns) (ha : VA X W true (e :: es) φs) (hl : ns.length ≤ 900) (hg : Gl X x := by rfl) (hdb : (x == ("__debug__" : Str)) = false := by decide)
    (he : starEach (e :: es) X.env = (false, eval e X.env) :: starEach es X.env := by rfl) (hpl : (backTo pos (starEach es X.env)).any (·.1) = false := by rfl) :
    VS X W (.Raise (some (.Call (.Name x p) (e :: es) [] pos)) none pos2) (raiseS x ns φs) := by
  obtain ⟨C, fI, fd, ps, hm, T, iC, tI, hb, FI⟩ := hE.ex
  obtain ⟨t, pt, r⟩ := ha
  exact ⟨_, L2.ps_raise hc tk (pmk_up (pmk_oexN T iC tI FI hr hb (fun pins σ H s e s' I c => absurd c (fun ⟨_, _, _, _, _, _, _, _, _, _, _, _, z⟩ => z)) hg hm pt hdb he hpl)), fun H0 M0 M H σ env D g h => rsd_ask hl hm g (fun Q q => r H0 M0 M H σ env Q g q) h⟩
end
section
variable {P : Program} {w : World} {K : PySem.W.Frag} {mg : Str → Option Value} {base : Heap} {CX : CXT} {qual f1 : Str} {st : Stmt} {f C : Addr} {fd : FuncData} {q1 q2 q3 q4 : Pos}
theorem init_oneC (F : Fun K "__init__" qual st f fd) (S : FnScope ["self", f1] ["self", f1] (defScope st)) (hb : defBody st = [.Assign [.Attribute (.Name "self" q1) f1 q2] (.Name f1 q3) q4]) (T : OexC K C) (no1 : PySem.W.findIn K (.ref C) f1 = some none)
    (l0 : (defScope st).names.lookup ("self" : Str) = some .local) (l1 : (defScope st).names.lookup f1 = some .local) (hd1 : (f1 == ("__debug__" : Str)) = false) (hc1 : (f1 == ("__classdict__" : Str)) = false) : FnC P w K mg base CX 1 f fd ["self", f1] (spIn C [f1]) := by
  refine fun_okC F S (fun vs H Q E h => ?_) fun cdv A outer s H vs Q E p hr h => ?_
  · obtain ⟨a, us, rfl, hl, _⟩ := h
    rw [List.length_cons, hl]; rfl
  · obtain ⟨a, us, rfl, hl, ha, k⟩ := h
    match us, hl with
    | [y], _ =>
      refine ⟨_, hb ▸ pss_one (ps_ost (pe_var (i := 0) rfl (Or.inl l0)) (pe_var (i := 1) rfl (Or.inl l1) hd1 hc1)), ?_⟩
      exact ⟨y, rfl, _, rfl, a, C, rfl, T, no1, .inl ⟨ha, fun dx h1 h2 => k dx h1 h2⟩⟩
end
structure ExIC (P : Program) (w : World) (K : PySem.W.Frag) (mg : Str → Option Value) (base : Heap) (x : Str) (ns : List Str) : Prop where
  ex : ∃ (C fI : Addr) (fd : FuncData) (ps : List Str), mg x = some (.ref C) ∧ OexC K C ∧ PySem.W.findIn K (.ref C) "__init__" = some (some (.ref fI)) ∧ PySem.W.typeIn K (.ref fI) = some (.type "function") ∧ Binds K fd ps [] ∧ FnC P w K mg base (L2N.CX P w) 1 fI fd ps (spIn C ns)
theorem fnH_of {P : Program} {w : World} {K : PySem.W.Frag} {mg : Str → Option Value} {base : Heap} {CX : CXT} {k : Nat} {f : Addr} {fd : FuncData} {ps : List Str} {sp : Sp} (F : FnC P w K mg base CX k f fd ps sp) : L2H.FnH P w K mg base CX k f fd ps sp :=
  ⟨F.len, fun A outer s H args us vs Q E _ hr _ _ e0 b r h => F.run A outer s H args us vs Q E hr e0 b r h⟩
def tryXS (ψ : Env → SRes) (cat : List (Str × Bool)) (χ : Env → SRes) (env : Env) : SRes := match ψ env with
  | .xc c fs e => match cat.lookup c with
    | some true => χ e
    | some false => .xc c fs e
    | none => .bad
  | r => r
section
variable {X : Cx} {W : WX} {x : Str} {j : Nat} {p pos pos2 cpos : Pos} {e : Expr} {es : List Expr} {φs : Env → Res (List VL.D)} {body suite : List Stmt} {b1 : Stmt} {np hp : Pos} {ψ χ : Env → SRes} {cat : List (Str × Bool)} {cv : Value}
theorem vs_raiseHN {ns : List Str} (hot : L2H.HotC X) (tk : L2.Takes X W) (hr : L2H.RoomH 2 X.A) (hE : ExIC X.prog X.w X.K X.mg X.base x ns) (ha : VA X W true (e :: es) φs) (hl : ns.length ≤ 900) (hg : Gl X x := by rfl) (hdb : (x == ("__debug__" : Str)) = false := by decide)
    (he : starEach (e :: es) X.env = (false, eval e X.env) :: starEach es X.env := by rfl) (hpl : (backTo pos (starEach es X.env)).any (·.1) = false := by rfl) :
    VS X W (.Raise (some (.Call (.Name x p) (e :: es) [] pos)) (some (.Constant .none j cpos)) pos2) (raiseS x ns φs) := by
  obtain ⟨C, fI, fd, ps, hm, T, iC, tI, hb, FI⟩ := hE.ex
  obtain ⟨t, pt, r⟩ := ha
  exact ⟨_, L2H.ps_raiseHN hot tk (L2H.pmk5_oexH T iC tI (fnH_of FI) hr hot hb (fun pins σ H s e s' I c => absurd c (fun ⟨_, _, _, _, _, _, _, _, _, _, _, _, z⟩ => z)) hg hm pt hdb he hpl), fun H0 M0 M H σ env D g h => rsd_ask hl hm g (fun Q q => r H0 M0 M H σ env Q g q) h⟩
theorem vs_tryX (tk : L2.Takes X W) (hs : X.stack = X.env :: X.outer) (hf : X.env.frame = some X.env.locals) (hpa : ∀ hd : Option Value, PassesOwnAt (model X.prog X.w) (X.A.mark hd) X.A X.env X.xe) (hc : Names X x cv)
    (hcat : ∀ c b, cat.lookup c = some b → ∃ C, X.mg c = some C ∧ PySem.W.exmOne X.K C cv = some b)
    (hb : ∀ (W' : WX) (pn : List (Addr × Obj)) (xe : Value → Shared → Prop), L2N.Takes (X.tr pn xe) W' → PassesOwn (model X.prog X.w) X.A X.env xe → VB (X.tr pn xe) W' body ψ)
    (hsu : ∀ (a : Addr) (pn : List (Addr × Obj)), L2.Takes (L2H.suiteX X a pn) W → L2H.HotC (L2H.suiteX X a pn) → VB (L2H.suiteX X a pn) W (b1 :: suite) χ) :
    VS X W (.Try body [.ExceptHandler (some (.Name x np)) none (b1 :: suite) hp] [] [] pos) (tryXS ψ cat χ) := by
  refine ⟨_, L2H.ps_try_onlyX (tb := fun W' => tVB X W' ψ) (ts := fun _ _ _ => tVB X W χ) hs hf hc hpa tk (fun W' pn xe t _ q => vb_canon (Y := X) (hb W' pn xe t q) rfl) (fun a oe cls d pn _ _ t q => vb_canon (Y := X) (hsu a _ t q) rfl), fun H0 M0 M H σ env D g h => ⟨H0, M0, M, env, g, ?_⟩⟩
  unfold tryXS at h
  cases q : ψ env <;> rw [q] at h <;> first | exact h | skip
  case xc c fs e1 =>
    intro M' H' σ' cls dd g' e' rx
    have h : PostS X W H0 M0 M H D (match cat.lookup c with | some true => χ e1 | some false => .xc c fs e1 | none => .bad) := h
    cases z : cat.lookup c with
    | none => rw [z] at h; exact h.elim
    | some b =>
      obtain ⟨C, k1, k2⟩ := hcat c b z
      have ec : C = cls := by
        have := rx.1.symm.trans k1
        cases this; rfl
      subst ec
      rw [z] at h
      refine ⟨b, k2, fun hb a na => ?_, fun hb => ?_⟩
      · subst hb
        exact ⟨H0, M0, M', e1, g', PostS.mono h e'⟩
      · subst hb
        exact h M' H' σ' _ dd g' e' rx
end
end VL

set_option maxRecDepth 100000
set_option maxHeartbeats 2000000
set_option autoImplicit false
namespace VL
open PySem PySem.Spec PyProof.Rows L2 NdefX LamX
abbrev nfn (X : Cx) (st : Stmt) (name : Str) (c' : Addr) : NdefX.NF := NdefX.NF.of st name (X.env.qual ++ name) (cloFrom X.env.cells (C8.fnScope st).names []) c'
def tNdefX (X : Cx) (st : Stmt) (name : Str) (i : Nat) : TS := fun D σ H => TabG H ∧ (∀ a ps, H a = some (.tbl ps) → X.H_0 a = some (.tbl ps)) ∧
  ∀ (f c' : Addr) (H1 : Hp), Ext H H1 → H f = none → H1 f = some (FnO f (nfn X st name c')) → H1 c' = some (CodeO c' (X.env.qual ++ name)) → D.nx (σ.set i (some (.ref f))) H1
theorem ps_ndefX {X : Cx} {st : Stmt} {c P : Addr} {name : Str} {pos : Pos} {i : Nat} (hst : st = .FunctionDef name (C8.fnArgs st) (C8.fnBody st) [] none [] (C8.fnScope st) none name pos) (TB : TabB X.base X.mg c P) (hcode : X.env.code = .ref c) (htP : tabP = some P) (hn : tabQ = X.env.qual ++ name)
    (hfree : ∀ y ∈ (C8.fnScope st).names, y.2 = .free → X.env.scope.names.lookup y.1 = some .cell ∨ X.env.scope.names.lookup y.1 = some .free) (hd0 : (C8.fnArgs st).defaults = []) (hk0 : (C8.fnArgs st).kw_defaults = []) (ha : annTrees (C8.fnArgs st) none X.env = [])
    (hN : X.N.Nodup) (hi : X.N[i]? = some name) (hx : Loc X.env.scope name) (hf : X.fn name = true ∨ X.env.scope.names.lookup name = some .local) : PS X st (tNdefX X st name i) := by
  have base := ps_ndefMS (T := [(P, fun _ _ => tabQ)]) (nm := fun _ _ => tabQ) hst TB hcode (List.mem_singleton.mpr rfl) hn (fun p hp _ => by rw [List.mem_singleton.mp hp]) hfree hd0 hk0 ha hN hi hx hf
  constructor
  intro pins s σ H D I h
  obtain ⟨tg, same, go⟩ := h
  refine thn (base.run pins s σ H { nx := fun σ' H' => ∃ f c', σ' = σ.set i (some (.ref f)) ∧ ExtN H H' ∧ TabN H' P (fun _ _ => tabQ) ∧ H f = none ∧ H' f = some (FnO f (nfn X st name c')) ∧ H' c' = some (CodeO c' (X.env.qual ++ name)), rt := fun _ _ => False } I
    ⟨fun p hp => by rw [List.mem_singleton.mp hp]; exact tg P htP, fun f c' H1 e _ t1 f0 f1 c1 => ⟨f, c', rfl, e, t1 _ (List.mem_singleton.mpr rfl), f0, f1, c1⟩⟩) fun fl s' hs => ?_
  cases fl with
  | next =>
    obtain ⟨σ', H', J, f, c', rfl, e, t1, f0, f1, c1⟩ := hs
    refine ⟨_, H', J, go f c' H' ⟨fun a u hu => ?_, fun _ P' hP' => ?_⟩ f0 f1 c1⟩
    · cases u with
      | tbl ps =>
        obtain ⟨more, z⟩ := J.base.tbls a ps (same a ps hu)
        exact ⟨more, z⟩
      | _ => exact e a _ hu (fun _ z => nomatch z)
    · rw [htP] at hP'
      cases hP'
      exact t1
  | ret v =>
    obtain ⟨_, _, _, _, _, q⟩ := hs
    exact q.elim
  | brk =>
    obtain ⟨_, _, _, q⟩ := hs
    exact q.elim
  | cont =>
    obtain ⟨_, _, _, q⟩ := hs
    exact q.elim
def tTakeX (X : Cx) (W : WX) (mk : Addr → NdefX.NF) (NY : List Str) (js : List Nat) (jf jn jl : Nat) (rest : List Stmt) : TS := fun D σ H => ∃ (f c' : Addr) (n : Int) (x : V), σ[jf]? = some (some (.ref f)) ∧ H f = some (FnO f (mk c')) ∧ H c' = some (CodeO c' (mk c').qual) ∧ σ[jn]? = some (some (.int n)) ∧ σ[jl]? = some (some x) ∧
  ∀ sb : Shared, ∃ t, PSs (ncx (L2.CX X.prog X.w) X.prog X.w X.K X.mg X.base NY (mk c') f X.A X.stack sb H (L2.WE W (σ.set jn (some (.int (n + 1)))))) rest t ∧
    t { nx := fun _ H' => D.nx (σ.set jn (some (.int (n + 1)))) H', rt := fun _ H' => D.nx (σ.set jn (some (.int (n + 1)))) H' } (startF NY [x] (js.map (slotAt (σ.set jn (some (.int (n + 1))))))) H
section
variable {X : Cx} {W : WX}
theorem ps_takeX {mk : Addr → NdefX.NF} {cl : List (Str × Addr)} {NY fr : List Str} {js : List Nat} {jf jn jl k kc : Nat} {rest : List Stmt} {pl x y z : Str} {px pz pos cpos p1 p2 p3 pc : Pos} (tk : L2.Takes X W) (hr : Room (k + 1) X.A) (hmc : ∀ c', (mk c').c = c') (hcl : ∀ c', (mk c').cl = cl) (S : ∀ c', NScope NY [pl] fr (mk c').scope)
    (hb : ∀ (c' : Addr) (doc pm ctv : Value) (us : List Value), us.length = [pl].length → bindArgs ((mk c').fd doc pm ctv) ⟨us, []⟩ = pure ([pl].zip us)) (cp : X.Ok → Caps X cl fr js) (hbody : ∀ c', (mk c').body = .Nonlocal [y] p1 :: .AugAssign (.Name y p2) .Add (.Constant (.int 1) kc pc) p3 :: rest)
    (hN : X.N.Nodup) (hjn : X.N[jn]? = some y) (hy : y ∈ fr) (hcell : X.env.scope.names.lookup y = some .cell) (hfn : X.fn y = true) (hycd : (y == ("__classdict__" : Str)) = false)
    (hjf : X.N[jf]? = some x) (hvx : Vis X.env.scope x) (hjl : X.N[jl]? = some z) (hvz : Vis X.env.scope z) (hdx : (x == ("__debug__" : Str)) = false := by decide) (hcx : (x == ("__classdict__" : Str)) = false := by decide) (hdz : (z == ("__debug__" : Str)) = false := by decide) (hcz : (z == ("__classdict__" : Str)) = false := by decide)
    (hs : swapsWith (.Call (.Name x px) [.Name z pz] [] cpos) none pos.line X.env = pure false := by rfl) (he : starEach [.Name z pz] X.env = (false, eval (.Name z pz) X.env) :: starEach [] X.env := by rfl) (hpl : (backTo cpos (starEach [] X.env)).any (·.1) = false := by rfl) :
    PS X (.Expr (.Call (.Name x px) [.Name z pz] [] cpos) pos) (tTakeX X W mk NY js jf jn jl rest) := by
  constructor
  intro pins s σ H D I h
  obtain ⟨f, c', n, v, hf, hF, hc, hn, hv, run⟩ := h
  refine wpAny_Expr_any (Q := SP X pins D) (wpAny_mono (Q := EP X pins (σ.set jn (some (.int (n + 1)))) fun _ H' => D.nx (σ.set jn (some (.int (n + 1)))) H') ?_ (fun u s1 q => ?_) fun _ _ q => q) I.quiet hs
  · have nam := (pe_var (pos := px) hjf hvx hdx hcx).run pins s σ H (fun w K => w = .ref f ∧ K = H) I ⟨_, hf, rfl, rfl⟩
    refine wpAny_Call_Name_kw (thn nam fun u s1 q => ?_)
    obtain ⟨w, K1, I1, r1, e1, e2⟩ := q
    subst e1 e2
    obtain rfl : u = Value.ref f := r1
    have arg := (pa_cons (pe_var (pos := pz) hjl hvz hdz hcz) pa_nil he).run cpos pins s1 σ K1 (fun ws K => ws = [v] ∧ K = K1) I1 ⟨_, hv, rfl, rfl⟩
    refine PySem.W.callWith_F (first := []) (fnAt_of I1 hF) (thn arg fun us s2 q => ?_) he hpl
    obtain ⟨ws, K2, I2, r2, e1, e2⟩ := q
    subst e1 e2
    refine ⟨fnAt_of I2 hF, ?_⟩
    show wpAny _ _ (call (.ref f) us) _ _ _
    have cpI : Caps X (mk c').cl fr js := by rw [hcl c']; exact cp I2.ok
    refine run_take (CX := L2.CX X.prog X.w) (E := L2.WE W (σ.set jn (some (.int (n + 1))))) (k := k) (N := NY) (ps := [pl]) (vs := [v]) I2 hr (L2.passAt tk _) hF (by rw [hmc]; exact hc) (S c') cpI hN hjn hy hcell hfn hn (hb c') rfl r2 (hbody c') (fun sb _ => run sb) hycd
  · obtain ⟨_, H', J, _, q⟩ := q
    exact ⟨_, H', J, q⟩
end
end VL

set_option maxRecDepth 100000
set_option maxHeartbeats 2000000
set_option autoImplicit false
namespace VL
open PySem L2 PyProof.Rows LamX
def takeL (ψ : Env → SRes) : List D → List D → Int → Res (List D)
  | [], ds, _ => .ok ds
  | l :: ls, ds, n => match ψ [.sh l, .ow (.lst ds), .sh (.int (n + 1))] with
    | .nx env => match (env[1]? : Option Sl) with
      | some (.ow (.lst ds')) => takeL ψ ls ds' (n + 1)
      | _ => .bad
    | .xc c fs _ => .exc c fs
    | _ => .bad
def bookM (ψ : Env → SRes) : List D → Res D
  | [.str t] => if t.length + 2 ≤ sizeLine then (takeL ψ ((Txt.split t "\n").map .str) [] 0).bind fun ds => .ok (.lst ds) else .bad
  | _ => .bad
theorem fun_okD {P : Program} {w : World} {K : PySem.W.Frag} {mg : Str → Option Value} {base : Heap} {CX : CXT} {x qual : Str} {st : Stmt} {f : Addr} {fd : FuncData} {N ps : List Str} {k : Nat} {sp : Sp} {cv : Value} (F : Fun K x qual st f fd) (hc : fd.code = cv) (S : FnScope N ps (defScope st)) (len : ∀ vs H Q E, sp vs H Q E → vs.length = ps.length)
    (hbody : ∀ (A : Around) (outer : List PySem.Env) (s : Shared) (H : Hp) (vs : List V) (Q : VK) (E : XK), Room k (A.deeper (PyProof.Rows.envOfC qual (defScope st) s.heap.objs.size f cv)) → sp vs H Q E →
      ∃ t, PSs (cxOf CX P w K mg base N qual (defScope st) f cv A outer s H E) (defBody st) t ∧ t { nx := fun _ H' => Q .non H', rt := Q } (L2.start N vs) H) : FnOk P w K mg base CX (k + 1) f fd ps sp := by
  obtain ⟨oc, od, kV, doc, pm, an, cdv, ct, osl, rfl, lk, hcd⟩ := F.ex
  have hc : cdv = cv := hc
  subst hc
  exact fn_of lk hcd S len fun A outer s H vs Q E hr hsp => hbody A outer s H vs Q E hr hsp
abbrev bkN : List Str := ["text", "facts", "number", "take", "line"]
abbrev tkN : List Str := ["line", "facts", "number"]
abbrev bkE (t : Str) (ds : List D) (n : Int) (l : Sl) : Env := [.sh (.str t), .ow (.lst ds), .sh (.int n), .no, l]
section
variable {P : Program} {w : World} {K : PySem.W.Frag} {mg : Str → Option Value} {base : Heap} {st tst : Stmt} {c Pt : Addr} {k kc k0 : Nat} {ψ : Env → SRes} {rest : List Stmt} {it : Expr} {tp p1 p2 p3 pc q1 q2 q3 q4 q5 q6 q7 q8 q9 q10 q11 q12 q13 q14 : Pos}
theorem bkE_only {t : Str} {ds : List D} {n : Int} {l : Sl} (hl : isOw (some l) = false) : ∀ j, j ≠ 1 → isOw (bkE t ds n l)[j]? = false
  | 0, _ => rfl
  | 1, h => absurd rfl h
  | 2, _ => rfl
  | 3, _ => rfl
  | 4, _ => hl
  | _ + 5, _ => rfl
theorem book_ok (R : Raw K mg "read_book" st ["text"]) (S : FnScope bkN ["text"] (defScope st)) (hcd : ∀ f fd, mg "read_book" = some (.ref f) → (∃ oc od osl, K.lookup f = some ⟨oc, od, .func fd, osl⟩) → fd.code = .ref c) (TB : LamX.TabB base mg c Pt) (htP : tabP = some Pt)
    (hb : defBody st = [.Assign [.Name "facts" q1] (.List [] q2) q3, .Assign [.Name "number" q4] (.Constant (.int 0) k0 q5) q6, tst, .For (.Name "line" q7) it [.Expr (.Call (.Name "take" q8) [.Name "line" q9] [] q10) q11] [] q12, .Return (some (.Name "facts" q13)) q14])
    (kx : (defScope st).names.lookup ("text" : Str) = some .local) (kf : (defScope st).names.lookup ("facts" : Str) = some .cell) (kn : (defScope st).names.lookup ("number" : Str) = some .cell) (kt : (defScope st).names.lookup ("take" : Str) = some .local) (kl : (defScope st).names.lookup ("line" : Str) = some .local)
    (hst : tst = .FunctionDef "take" (C8.fnArgs tst) (C8.fnBody tst) [] none [] (C8.fnScope tst) none "take" tp) (SY : NdefX.NScope tkN ["line"] ["facts", "number"] (C8.fnScope tst)) (hrest : C8.fnBody tst = .Nonlocal ["number"] p1 :: .AugAssign (.Name "number" p2) .Add (.Constant (.int 1) kc pc) p3 :: rest)
    (hfree : ∀ y ∈ (C8.fnScope tst).names, y.2 = .free → (defScope st).names.lookup y.1 = some .cell ∨ (defScope st).names.lookup y.1 = some .free) (hd0 : (C8.fnArgs tst).defaults = []) (hk0 : (C8.fnArgs tst).kw_defaults = []) (ha : ∀ ev, annTrees (C8.fnArgs tst) none ev = [])
    (hbind : ∀ (qual : Str) (cl : List (Str × Addr)) (c' : Addr) (doc pm ctv : Value) (us : List Value), us.length = 1 → bindArgs ((NdefX.NF.of tst "take" qual cl c').fd doc pm ctv) ⟨us, []⟩ = pure ((["line"] : List Str).zip us))
    (s1 : ∀ ev, swapsWith (.List [] q2) (some (.Name "facts" q1)) q3.line ev = pure false) (s2 : ∀ ev, swapsWith (.Constant (.int 0) k0 q5) (some (.Name "number" q4)) q6.line ev = pure false) (s3 : ∀ ev, swapsWith (.Call (.Name "take" q8) [.Name "line" q9] [] q10) none q11.line ev = pure false) (s4 : ∀ ev x, foldedSetIterable it ev x = pure x)
    (vi : ∀ (f : Addr) (A : Around) (outer : List PySem.Env) (s : Shared) (H : Hp) (E : XK), VI (cxOf (L2.CX P w) P w K mg base bkN "read_book" (defScope st) f (.ref c) A outer s H E) (WB E) (.Name "line" q7) it (iE (strE splitD (getP 0) (cE (.str "\n")))))
    (body : ∀ (qual : Str) (cl : List (Str × Addr)) (c' f : Addr) (A : Around) (outer : List PySem.Env) (s : Shared) (H : Hp) (E : XK), Room k (A.deeper (NdefX.envF (NdefX.NF.of tst "take" qual cl c') f s.heap.objs.size)) →
      L2.Takes (NdefX.ncx (L2.CX P w) P w K mg base tkN (NdefX.NF.of tst "take" qual cl c') f A outer s H E) (WB E) → VBK (NdefX.ncx (L2.CX P w) P w K mg base tkN (NdefX.NF.of tst "take" qual cl c') f A outer s H E) (WB E) 1 rest ψ) :
    DefOkO2 P w K mg base "read_book" (k + 2) ["text"] 1 (bookM ψ) := by
  obtain ⟨f0, fd, h1, h2, h3⟩ := R.ex
  have hc : fd.code = .ref c := by
    obtain ⟨_, _, _, _, _, _, _, _, _, e, l, _⟩ := id h2.ex
    subst e
    exact hcd f0 _ h1 ⟨_, _, _, l⟩
  refine ⟨f0, fd, h1, h2.kp, h3, fun_okD h2 hc S (fun vs H Q E h => h.1) fun A outer s H vs Q E hr h => ?_⟩
  obtain ⟨hl, M, ds, m, r, post⟩ := h
  -- one text
  have one : ∃ t : Str, ds = [.str t] ∧ t.length + 2 ≤ sizeLine := by
    unfold bookM at post
    split at post
    · rename_i t
      split at post
      · exact ⟨t, rfl, by assumption⟩
      · exact post.elim
    · exact post.elim
  obtain ⟨t, rfl, ht⟩ := one
  have post : PostO ⟨P, w, K, mg⟩ M H Q E ((takeL ψ ((Txt.split t "\n").map .str) [] 0).bind fun ds => .ok (.lst ds)) := by
    have e : bookM ψ [.str t] = (takeL ψ ((Txt.split t "\n").map .str) [] 0).bind fun ds => .ok (.lst ds) := if_pos ht
    rw [e] at post
    exact post
  let X : Cx := cxOf (L2.CX P w) P w K mg base bkN "read_book" (defScope st) f0 (.ref c) A outer s H E
  have tk : L2.Takes X (WB E) := L2.takes_of rfl rfl rfl rfl
  have po : PassesOwn (model P w) X.A X.env X.xe := passes_of rfl
  let mk : Addr → NdefX.NF := fun c' => nfn X tst "take" c'
  -- the statements
  have i1 := ps_set (X := X) (i := 1) (pos' := q1) (pos := q3) S.nd rfl (.inr kf) (pe_lst (pos := q2) pa_nil) (s1 _)
  have i2 := ps_set (X := X) (i := 2) (pos' := q4) (pos := q6) S.nd rfl (.inr kn) (pe_int (i := 0) (j := k0) (pos := q5)) (s2 _)
  have i3 : PS X tst (tNdefX X tst "take" 3) := ps_ndefX hst TB rfl htP rfl hfree hd0 hk0 (ha _) S.nd rfl (.inl kt) (.inl rfl)
  have cp : X.Ok → NdefX.Caps X (cloFrom X.env.cells (C8.fnScope tst).names []) ["facts", "number"] [1, 2] := fun ok => NdefX.Caps.made ok hfree (fun y hy => PySem.mem_of_lookup (SY.frk y hy)) rfl
  have i4 := ps_takeX (X := X) (W := WB E) (mk := mk) (cl := cloFrom X.env.cells (C8.fnScope tst).names []) (NY := tkN) (fr := ["facts", "number"]) (js := [1, 2]) (jf := 3) (jn := 2) (jl := 4) (k := k) (x := "take") (y := "number") (z := "line") (px := q8) (pz := q9) (cpos := q10) (pos := q11)
    tk hr (fun _ => rfl) (fun _ => rfl) (fun _ => SY) (fun c' => hbind _ _ c') cp (fun _ => hrest) S.nd rfl (List.mem_cons_of_mem _ (List.mem_cons_self ..)) kn rfl rfl rfl (.inl kt) rfl (.inl kl) rfl rfl rfl rfl (s3 _)
  obtain ⟨wi, pi, ri⟩ := vi f0 A outer s H E
  have i5 := ps_for (X := X) (pos := q12) po rfl pi (pg_name (i := 4) S.nd rfl (.inl kl)) (pss_one i4) (s4 _)
  obtain ⟨t6, i6, r6⟩ := vs_retO (X := X) (W := WB E) (px := q13) (pos := q14) 1 rfl (.inr (.inl kf))
  rw [hb]
  refine ⟨_, pss_cons i1 (pss_cons i2 (pss_cons i3 (pss_cons i5 (pss_one i6)))), ?_⟩
  obtain ⟨v, rfl, rv⟩ := r.one
  cases rv
  generalize hls : (Txt.split t "\n").map D.str = ls at post
  refine ⟨Nat.zero_le _, fun p hp => ⟨m.tb.put (nc_no hp), fun a ps h => ?_, fun f c' H2 e12 nf hF hC => ?_⟩⟩
  · by_cases e : a = p
    · rw [e, upd_same] at h; cases h
    · rw [upd_ne e] at h; exact h
  have g0 : Good (gm X) H M M H (L2.start bkN [.str t]) (env0 5 [.str t]) := good0 (N := bkN) m r
  have g1 := g0.own (i := 1) (d := .lst []) hp (Ext.new hp) ⟨[], upd_same, .nil⟩
  have g2 := g1.set (i := 2) (d := .int 0) (v := .int 0) (.int 0)
  have g3 : Good (gm X) H M (addM M p) H2 _ (bkE t [] 0 .no) := (g2.mono e12).no 3 (some (.ref f))
  refine ri H M (addM M p) H2 _ (bkE t [] 0 .no) _ g3 ?_
  have eι : iE (strE splitD (getP 0) (cE (.str "\n"))) (bkE t [] 0 .no) = .ok ls := by
    rw [← hls]
    show (if (("\n" : Str).length == 0) = false ∧ t.length + 2 ≤ sizeLine then Res.ok (D.lst ((Txt.split t "\n").map .str)) else .bad).bind itemsD = _
    rw [if_pos ⟨rfl, ht⟩]
    rfl
  rw [eι]
  intro J H3 e23 ok
  have hF3 : H3 f = some (NdefX.FnO f (mk c')) := (e23 f _ hF).get rfl
  have hC3 : H3 c' = some (CodeO c' (mk c').qual) := (e23 c' _ hC).get rfl
  refine ⟨fun kk mm σ' H' => mm = ls.length - kk ∧ ∃ M' ds n l, Good (gm X) H M M' H' σ' (bkE t ds n l) ∧ isOw (some l) = false ∧ VEx (Sh (addM M p) (vw H3)) (Sh M' (vw H')) ∧ σ'[3]? = some (some (.ref f)) ∧ H' f = some (NdefX.FnO f (mk c')) ∧ H' c' = some (CodeO c' (mk c').qual) ∧
      PostO ⟨P, w, K, mg⟩ M H Q E ((takeL ψ (ls.drop kk) ds n).bind fun ds => .ok (.lst ds)), ⟨ls.length, rfl, addM M p, [], 0, .no, g3.mono e23, rfl, .refl _, rfl, hF3, hC3, post⟩, ?_⟩
  rintro kk mm σ' H' ⟨rfl, M', ds, n, l, g', hl', ve, hf3, hF', hC', post'⟩
  obtain ⟨o1, o2⟩ := ok M' H' g'.ok g'.ex ve kk
  cases qd : ls[kk]? with
  | none =>
    have hi : ls.length ≤ kk := List.getElem?_eq_none_iff.mp qd
    rw [List.drop_of_length_le hi] at post'
    exact .inl ⟨o1 hi, r6 H M M' H' σ' _ _ g' fun p' H'' e h0 o => post' p' H'' e h0 o⟩
  | some d =>
    obtain ⟨o3, o4⟩ := o2 d qd
    have hi : kk < ls.length := (List.getElem?_eq_some_iff.mp qd).1
    have hdr : ls.drop kk = d :: ls.drop (kk + 1) := by
      rw [List.drop_eq_getElem_cons hi]
      rw [List.getElem?_eq_getElem hi] at qd
      cases qd; rfl
    rw [hdr] at post'
    refine .inr ⟨o3, fun σ2 H2 => ∃ M' ds n l, Good (gm X) H M M' H2 σ2 (bkE t ds n l) ∧ isOw (some l) = false ∧ VEx (Sh (addM M p) (vw H3)) (Sh M' (vw H2)) ∧ σ2[3]? = some (some (.ref f)) ∧ H2 f = some (NdefX.FnO f (mk c')) ∧ H2 c' = some (CodeO c' (mk c').qual) ∧
      PostO ⟨P, w, K, mg⟩ M H Q E ((takeL ψ (ls.drop (kk + 1)) ds n).bind fun ds => .ok (.lst ds)), fun σ2 H2 h => ⟨ls.length - (kk + 1), by omega, rfl, h⟩, fun y H4 hy => ?_⟩
    obtain ⟨ey, ry⟩ := o4 y H4 hy
    have g4 : Good (gm X) H M M' H4 (σ'.set 4 (some y)) (bkE t ds n (.sh d)) := (g'.mono ey).set (i := 4) ry
    have g5 : Good (gm X) H M M' H4 ((σ'.set 4 (some y)).set 2 (some (.int (n + 1)))) (bkE t ds (n + 1) (.sh d)) := g4.set (i := 2) (.int (n + 1))
    have hF4 : H4 f = some (NdefX.FnO f (mk c')) := (ey f _ hF').get rfl
    have hC4 : H4 c' = some (CodeO c' (mk c').qual) := (ey c' _ hC').get rfl
    obtain ⟨p1, hv1, mp1, m01, xs1, ox1, orx1⟩ := g5.sl 1 _ rfl
    obtain ⟨v2, hv2, rv2⟩ := g4.sl 2 _ rfl
    cases rv2
    obtain ⟨v5, hv5, rv5⟩ := g5.sl 2 _ rfl
    cases rv5
    obtain ⟨v4, hv4, rv4⟩ := g4.sl 4 _ rfl
    have hs3 : (σ'.set 4 (some y))[3]? = some (some (.ref f)) := by rw [get_set_ne (by decide)]; exact hf3
    have hs4 : (σ'.set 4 (some y))[4]? = some (some y) := List.getElem?_set_self (by rw [g'.len]; exact Nat.lt_succ_self 4)
    refine ⟨f, c', n, y, hs3, hF4, hC4, hv2, hs4, fun sb => ?_⟩
    obtain ⟨tb, pb, rb⟩ := body (X.env.qual ++ "take") (cloFrom X.env.cells (C8.fnScope tst).names []) c' f X.A X.stack sb H4 (L2.WE (WB E) ((σ'.set 4 (some y)).set 2 (some (.int (n + 1))))) (hr.deeper _) (L2.takes_of rfl rfl rfl rfl)
    refine ⟨tb, pb, ?_⟩
    have es : NdefX.startF tkN [y] ([1, 2].map (NdefX.slotAt ((σ'.set 4 (some y)).set 2 (some (.int (n + 1)))))) = [some y, some (.ref p1), some (.int (n + 1))] := by
      rw [List.map_cons, List.map_cons, List.map_nil, NdefX.slotAt_of hv1, NdefX.slotAt_of hv5]
      rfl
    rw [es]
    refine rb (dropH H4 p1) (subM M' p1) M' H4 _ _ _ (good_take g5 rfl hv1 ry (n + 1)) ?_
    have post2 : PostO ⟨P, w, K, mg⟩ M H Q E (Res.bind (match ψ [.sh d, .ow (.lst ds), .sh (.int (n + 1))] with
      | .nx env => (match (env[1]? : Option Sl) with
        | some (.ow (.lst ds')) => takeL ψ (ls.drop (kk + 1)) ds' (n + 1)
        | _ => .bad)
      | .xc c fs _ => .exc c fs
      | _ => .bad) fun ds => .ok (.lst ds)) := post'
    have eh : Ext H (dropH H4 p1) := ext_drop g5 rfl hv1
    have nf1 : f ≠ p1 := fun e => by
      have z : some (HO.lst xs1) = some (NdefX.FnO f (mk c')) := by rw [← ox1, ← e]; exact hF4
      unfold NdefX.FnO at z
      cases z
    have nc1 : c' ≠ p1 := fun e => by
      have z : some (HO.lst xs1) = some (CodeO c' (mk c').qual) := by rw [← ox1, ← e]; exact hC4
      unfold CodeO at z
      cases z
    cases qψ : ψ [.sh d, .ow (.lst ds), .sh (.int (n + 1))] with
    | nx env2 =>
      rw [qψ] at post2
      intro M2 H5 σ2 gy ve2 hvp
      have post3 : PostO ⟨P, w, K, mg⟩ M H Q E (Res.bind (match (env2[1]? : Option Sl) with
        | some (.ow (.lst ds')) => takeL ψ (ls.drop (kk + 1)) ds' (n + 1)
        | _ => .bad) fun ds => .ok (.lst ds)) := post2
      cases q1 : env2[1]? with
      | none => rw [q1] at post3; exact (show False from post3).elim
      | some s1 =>
        rw [q1] at post3
        cases s1 with
        | no => exact (show False from post3).elim
        | sh _ => exact (show False from post3).elim
        | ow dd =>
          cases dd with
          | lst ds' =>
            exact ⟨M2, ds', n + 1, .sh d, good_back g5 rfl hv1 (bkE_only rfl) gy q1 hvp ve2, rfl, (ve.trans (Sh_mono ey.v)).trans ve2, by rw [get_set_ne (by decide)]; exact hs3, (gy.ex f _ (by rw [dropH_at nf1]; exact hF4)).get rfl, (gy.ex c' _ (by rw [dropH_at nc1]; exact hC4)).get rfl, post3⟩
          | _ => exact (show False from post3).elim
    | xc cn fs env2 =>
      rw [qψ] at post2
      intro M2 H5 σ2 cls dd gy ve2 r2
      refine (show ∀ cls dd H', Ext H H' → RpX ⟨P, w, K, mg⟩ (Sh M (vw H')) cn fs cls dd → E cls dd H' from post2) cls dd H5 (eh.trans gy.ex) (r2.mono fun a u hu => ?_)
      obtain ⟨z1, z2⟩ := Sh_some hu
      rw [Sh_of]
      · exact z2
      · cases z : M a with
        | false => rfl
        | true => rw [gy.sub a (sub_drop g5 rfl hv1 a z)] at z1; cases z1
    | rt _ => rw [qψ] at post2; exact (show False from post2).elim
    | bk _ => rw [qψ] at post2; exact (show False from post2).elim
    | ct _ => rw [qψ] at post2; exact (show False from post2).elim
    | bad => rw [qψ] at post2; exact (show False from post2).elim
    | ro _ => rw [qψ] at post2; exact (show False from post2).elim
end
end VL

set_option maxRecDepth 100000
set_option maxHeartbeats 2000000
set_option autoImplicit false
namespace VL
open PySem L2
section
variable {X : Cx} {W : WX} {fl fla flb : Bool} {o e : Expr} {apos pos : Pos} {φa φb : Env → Res D}
def findD (a : Str) : D → Res D
  | .str b => .ok (.int (Txt.find a b))
  | _ => .bad
theorem ve_find (ha : VE X W fla o φa) (hb : VE X W flb e φb) (hs : starEach [e] X.env = [(false, eval e X.env)] := by rfl) (hbase : attributeBase o "find" X.env (eval o X.env) = eval o X.env := by rfl) (hline : (apos.endLine == pos.line) = true := by rfl) :
    VE X W fl (.Call (.Attribute o "find" apos) [e] [] pos) (strE findD φa φb) := by
  obtain ⟨ta, pa, ra⟩ := ha
  obtain ⟨tb, pb, rb⟩ := hb
  refine ⟨_, pe_m1 PySem.F.slot_str_find PySem.F.type_str_find mt_find pa pb hs hbase hline, fun H0 M0 M H σ env Q g h => ?_⟩
  refine ra H0 M0 M H σ env _ g (PostE.seq h fun d v H1 e1 r1 h1 => ?_)
  cases r1 <;> first | exact h1.elim | skip
  case str a =>
    refine ⟨⟨a, rfl⟩, rb H0 M0 M H1 σ env _ (g.mono e1) (PostE.seq h1 fun d2 v2 H2 e2 r2 h2 => ?_)⟩
    cases r2 <;> first | exact h2.elim | skip
    case str b => exact ⟨a, b, rfl, rfl, h2 _ H2 (Ext.refl _) (.int _)⟩
def upperE (φ : Env → Res D) (env : Env) : Res D := (φ env).bind fun d => match d with
  | .str a => if a.length ≤ 5592405 then .ok (.str (Txt.upper a)) else .bad
  | _ => .bad
theorem ve_upper (ha : VE X W fla o φa) (hbase : attributeBase o "upper" X.env (eval o X.env) = eval o X.env := by rfl) (hline : (apos.endLine == pos.line) = true := by rfl) :
    VE X W fl (.Call (.Attribute o "upper" apos) [] [] pos) (upperE φa) := by
  obtain ⟨ta, pa, ra⟩ := ha
  refine ⟨_, pe_m0 PySem.F.slot_str_upper PySem.F.type_str_upper mt_upper pa hbase hline, fun H0 M0 M H σ env Q g h => ?_⟩
  refine ra H0 M0 M H σ env _ g (PostE.seq h fun d v H1 e1 r1 h1 => ?_)
  cases r1 <;> first | exact h1.elim | skip
  case str a =>
    obtain ⟨q1, h2⟩ := PostE.ite h1
    exact ⟨⟨a, rfl⟩, a, rfl, rfl, q1, h2 _ H1 (Ext.refl _) (.str _)⟩
end
end VL

set_option maxRecDepth 100000
set_option maxHeartbeats 2000000
set_option autoImplicit false
namespace VL
open PySem PySem.Spec PyProof.Rows L2
theorem walk_ofP {l : PySem.W.OpenLaw} {n k : Nat} {q : Program} {loose : List Str} {XP : (Str → Option Value) → Heap → Prop} {YP : World → Heap → Prop} {d : DefRec} {CX : World → CXT} {x : Str} {Pt : Addr}
    (hn : l.most = some n) (hn2 : n ≤ sizeLine) (hdf : d.params.defaults = []) (hr : Room k callerA) (h63 : n ≤ 63) (htP : tabP = some Pt)
    (F : ∀ (w : World) (mg : Str → Option Value) (fa : Addr) (h : Heap), YP w h → h.Ns mainGlobals mg → mg d.name = some (.ref fa) →
      ∃ (K : Fr) (fd : FuncData) (c : Addr), K.In h ∧ K.lookup Pt = none ∧ h.get? Pt = some (PySem.W.tabObj #[]) ∧ PySem.W.CodeHd h c Pt ∧ (∀ (s : Shared) (u : Value), BindsTo s fd ⟨[u], []⟩ [(x, u)]) ∧ ∀ base : Heap, K.In base → base.Ns mainGlobals mg → LamX.TabB base mg c Pt → FnOk l.prog w K mg base (CX w) k fa fd [x] (spEnd K))
    (hCX : ∀ (w : World) (H : Hp) (s : Shared) (e : Value) (s' : Shared), CX w [] H s (fun _ _ _ => False) e s' → False) :
    PySem.W.WalkO q loose XP YP l.row.toRowW d [] (fun f vs => PySem.call f vs) := by
  refine Att.attach_callB hn hdf fun w s0 s1 mg mb fa o pm cd doc a vs ns G Y ho hd hcd hmg hobj hints hlen hbits hg => ?_
  obtain ⟨K, fd, c, KX, nT, hT, C, hb, hF⟩ := F w mg fa _ Y G.T.g hmg
  have one : ∀ {Q : Addr × Addr → Prop}, Q (c, Pt) → ∀ p ∈ [(c, Pt)], Q p := fun {Q} q p hp => by
    rw [List.mem_singleton.mp hp]; exact q
  refine LamX.law_callTs (cs := [(c, Pt)]) KX G.T.g G.T.b G.T.builtins G.T.nolimit hg (one hT) (one nT) (one C) G.T.bmain hobj hints (Nat.le_trans hlen hn2) hr (fun base kb gb tb => hF base kb gb (tb _ (List.mem_singleton.mpr rfl))) hb
    (fun H hH hS => ⟨a, ns, rfl, hS, fun P' hP' => ?_, Nat.le_trans hlen h63, hbits, fun _ => rfl⟩) fun H e s' => hCX w H s1 e s'
  rw [htP] at hP'
  cases hP'
  exact NdefX.TabN.nil (hH (c, Pt) (List.mem_singleton.mpr rfl))
end VL

set_option maxHeartbeats 4000000
set_option autoImplicit true
namespace VL
open PySem L2
def b__law_draw : Env → SRes :=
  (seqS (ifS (tE (op2 eqO (getP 0) (aE lstD nilA))) (retS (cE (.int 0))) nxS)
  (seqS (setS 3 (aE intF (consA (op2 getD (getP 0) (op2 modD (aE intF (consA (getP 1) nilA)) (aE lenF (consA (getP 0) nilA)))) nilA)))
  (seqS (ifS (andT (tE (op2 ltD (getP 1) (aE lenF (consA (getP 0) nilA)))) (tE (op2 geD (getP 3) (op2 powD (cE (.int 10)) (cE (.int 18)))))) (seqS (setS 6 (getP 3))
  (seqS (forS (gnG 7) (aI range1 (consA (getP 2) nilA)) (setS 6 (op2 fdivD (getP 6) (cE (.int 1000)))))
  (ifS (tE (op2 gtD (getP 6) (cE (.int 0)))) (retS (op2 modD (aE intF (consA (getP 6) nilA)) (cE (.int 1000)))) nxS))) nxS)
  (seqS (setS 4 (op2 modD (aE intF (consA (op2 addD (op2 addD (op2 addD (op2 mulD (op2 modD (aE intF (consA (getP 3) nilA)) (cE (.int 2147483647))) (cE (.int 48271))) (op2 mulD (getP 1) (cE (.int 30269)))) (op2 mulD (getP 2) (cE (.int 69621)))) (cE (.int 11))) nilA)) (cE (.int 2147483647))))
  (seqS (setS 5 (op2 modD (aE intF (consA (op2 addD (op2 addD (op2 addD (op2 addD (op2 mulD (op2 modD (aE intF (consA (getP 4) nilA)) (cE (.int 46337))) (cE (.int 40692))) (op2 mulD (op2 fdivD (getP 4) (cE (.int 46337))) (cE (.int 16807)))) (op2 mulD (getP 2) (cE (.int 9973)))) (op2 mulD (getP 1) (cE (.int 211)))) (cE (.int 5))) nilA)) (cE (.int 2147483399))))
  (retS (op2 modD (aE intF (consA (op2 fdivD (getP 5) (cE (.int 16))) nilA)) (cE (.int 1000)))))))))
def m__law_draw : List D → Res D := defM 8 b__law_draw
def b__law_names : Env → SRes :=
  (seqS (setS 3 (cE (.str "abcdefghijklmnopqrstuvwxyz0123456789")))
  (seqS (setS 4 (op2 modD (aE m__law_draw (consA (getP 0) (consA (getP 1) (consA (cE (.int 0)) nilA)))) (cE (.int 3))))
  (seqS (setS 5 (op2 addD (cE (.str "m")) (strE joinD (cE (.str "")) (lcE [9] (gnG 9) (aI range1 (consA (cE (.int 12)) nilA)) yesT (op2 getD (getP 3) (op2 modD (aE m__law_draw (consA (getP 0) (consA (getP 1) (consA (op2 addD (cE (.int 1)) (getP 9)) nilA)))) (cE (.int 36))))))))
  (seqS (setS 6 (op2 addD (cE (.int 1)) (op2 modD (aE m__law_draw (consA (getP 0) (consA (getP 1) (consA (cE (.int 13)) nilA)))) (cE (.int 12)))))
  (seqS (setS 7 (op2 modD (aE m__law_draw (consA (getP 0) (consA (getP 1) (consA (cE (.int 14)) nilA)))) (getP 6)))
  (seqS (ownS 8 (aE lstD nilA))
  (seqS (forS (gnG 9) (aI range1 (consA (getP 2) nilA)) (seqS (setS 10 (aE m__law_draw (consA (getP 0) (consA (getP 1) (consA (op2 addD (cE (.int 15)) (getP 9)) nilA)))))
  (seqS (setS 11 (op2 addD (op2 getD (getP 3) (op2 modD (getP 10) (cE (.int 26)))) (slE (getP 5) (someO (cE (.int 1))) (someO (op2 addD (cE (.int 1)) (op2 modD (op2 fdivD (getP 10) (cE (.int 26))) (cE (.int 12))))))))
  (seqS (ifS (tE (op2 eqO (getP 4) (cE (.int 0)))) (setS 11 (op2 getD (cE (.str "abcdefgh")) (getP 9))) nxS)
  (seqS (ifS (tE (op2 eqO (getP 4) (cE (.int 1)))) (setS 11 (op2 addD (op2 addD (slE (getP 5) noO (someO (getP 7))) (op2 getD (getP 3) (op2 modD (aE intF (consA (op2 addD (getP 10) (getP 9)) nilA)) (cE (.int 26))))) (slE (getP 5) (someO (op2 addD (getP 7) (cE (.int 1)))) (someO (getP 6))))) nxS)
  (appS 8 (getP 11)))))))
  (giveS 8 (retS (getP 8))))))))))
def m__law_names : List D → Res D := defM 12 b__law_names
def b__law_raw_run : Env → SRes :=
  (seqS (setS 6 (aE tupD (consA (op2 getD (getP 3) (op2 modD (aE m__law_draw (consA (getP 0) (consA (getP 1) (consA (getP 2) nilA)))) (aE lenF (consA (getP 3) nilA)))) nilA)))
  (seqS (forS (gnG 7) (aI range1 (consA (op2 modD (aE m__law_draw (consA (getP 0) (consA (getP 1) (consA (op2 addD (getP 2) (cE (.int 1))) nilA)))) (op2 addD (getP 5) (cE (.int 1)))) nilA)) (seqS (setS 8 (aE m__law_draw (consA (getP 0) (consA (getP 1) (consA (op2 addD (op2 addD (getP 2) (cE (.int 2))) (getP 7)) nilA)))))
  (setS 6 (op2 addD (getP 6) (aE tupD (consA (op2 addD (op2 getD (aE lstD (consA (cE (.str "+")) (consA (cE (.str "-")) nilA))) (op2 modD (getP 8) (cE (.int 2)))) (op2 getD (getP 4) (op2 modD (op2 fdivD (getP 8) (cE (.int 2))) (aE lenF (consA (getP 4) nilA))))) nilA))))))
  (retS (getP 6))))
def m__law_raw_run : List D → Res D := defM 9 b__law_raw_run
def b__law_raw_fact : Env → SRes :=
  (seqS (setS 5 (op2 getD (aE lstD (consA (cE (.str "goes")) (consA (cE (.str "fails")) (consA (cE (.str "alike")) (consA (cE (.str "apart")) nilA))))) (op2 modD (aE m__law_draw (consA (getP 0) (consA (getP 1) (consA (cE (.int 0)) nilA)))) (cE (.int 4)))))
  (seqS (setS 6 (aE m__law_raw_run (consA (getP 0) (consA (getP 1) (consA (cE (.int 1)) (consA (getP 2) (consA (getP 3) (consA (getP 4) nilA))))))))
  (seqS (ifS (orT (tE (op2 eqO (getP 5) (cE (.str "goes")))) (tE (op2 eqO (getP 5) (cE (.str "fails"))))) (retS (aE tupD (consA (getP 5) (consA (getP 6) nilA)))) nxS)
  (retS (aE tupD (consA (getP 5) (consA (getP 6) (consA (aE m__law_raw_run (consA (getP 0) (consA (getP 1) (consA (op2 addD (cE (.int 4)) (getP 4)) (consA (getP 2) (consA (getP 3) (consA (getP 4) nilA))))))) nilA))))))))
def m__law_raw_fact : List D → Res D := defM 7 b__law_raw_fact
def b__law_char : Env → SRes :=
  (seqS (setS 1 (cE (.str " !\"#$&'()*+,-./0123456789:;<=>?@ABCDEFGHIJKLMNOPQRSTUVWXYZ[\\]^_`")))
  (seqS (setS 1 (op2 addD (getP 1) (cE (.str "abcdefghijklmnopqrstuvwxyz{|}~\n"))))
  (retS (op2 getD (getP 1) (op2 modD (aE intF (consA (getP 0) nilA)) (cE (.int 95)))))))
def m__law_char : List D → Res D := defM 2 b__law_char
def b__law_spoilt_text : Env → SRes :=
  (seqS (setS 3 (op2 modD (aE m__law_draw (consA (getP 0) (consA (getP 1) (consA (cE (.int 70)) nilA)))) (cE (.int 14))))
  (seqS (setS 4 (op2 modD (aE m__law_draw (consA (getP 0) (consA (getP 1) (consA (cE (.int 71)) nilA)))) (op2 addD (aE lenF (consA (getP 2) nilA)) (cE (.int 1)))))
  (seqS (setS 5 (aE m__law_char (consA (aE m__law_draw (consA (getP 0) (consA (getP 1) (consA (cE (.int 72)) nilA)))) nilA)))
  (seqS (setS 6 (strE findD (getP 2) (cE (.str " "))))
  (seqS (ifS (tE (op2 eqO (getP 3) (cE (.int 0)))) (retS (op2 addD (op2 addD (slE (getP 2) noO (someO (getP 4))) (cE (.str " "))) (slE (getP 2) (someO (getP 4)) noO))) nxS)
  (seqS (ifS (tE (op2 eqO (getP 3) (cE (.int 1)))) (retS (op2 addD (op2 addD (slE (getP 2) noO (someO (getP 4))) (getP 5)) (slE (getP 2) (someO (getP 4)) noO))) nxS)
  (seqS (ifS (tE (op2 eqO (getP 3) (cE (.int 2)))) (retS (op2 addD (slE (getP 2) noO (someO (getP 4))) (slE (getP 2) (someO (op2 addD (getP 4) (cE (.int 1)))) noO))) nxS)
  (seqS (ifS (tE (op2 eqO (getP 3) (cE (.int 3)))) (retS (op2 addD (op2 addD (slE (getP 2) noO (someO (getP 4))) (getP 5)) (slE (getP 2) (someO (op2 addD (getP 4) (cE (.int 1)))) noO))) nxS)
  (seqS (ifS (tE (op2 eqO (getP 3) (cE (.int 4)))) (retS (op2 addD (getP 2) (cE (.str " ")))) nxS)
  (seqS (ifS (tE (op2 eqO (getP 3) (cE (.int 5)))) (retS (op2 addD (cE (.str " ")) (getP 2))) nxS)
  (seqS (ifS (andT (tE (op2 eqO (getP 3) (cE (.int 6)))) (tE (op2 geD (getP 6) (cE (.int 0))))) (retS (op2 addD (op2 addD (slE (getP 2) noO (someO (getP 6))) (cE (.str " "))) (slE (getP 2) (someO (getP 6)) noO))) nxS)
  (seqS (ifS (tE (op2 eqO (getP 3) (cE (.int 7)))) (retS (op2 addD (op2 addD (getP 2) (cE (.str " = "))) (getP 2))) nxS)
  (seqS (ifS (tE (op2 eqO (getP 3) (cE (.int 8)))) (retS (cE (.str ""))) nxS)
  (seqS (ifS (andT (tE (op2 eqO (getP 3) (cE (.int 9)))) (tE (op2 geD (getP 6) (cE (.int 0))))) (retS (op2 addD (op2 getD (aE lstD (consA (cE (.str "going")) (consA (cE (.str "Goes")) (consA (cE (.str "alike")) (consA (cE (.str "goes")) (consA (cE (.str "apart")) (consA (cE (.str "#")) nilA))))))) (op2 modD (aE m__law_draw (consA (getP 0) (consA (getP 1) (consA (cE (.int 73)) nilA)))) (cE (.int 6)))) (slE (getP 2) (someO (getP 6)) noO))) nxS)
  (seqS (ifS (tE (op2 eqO (getP 3) (cE (.int 10)))) (retS (upperE (getP 2))) nxS)
  (seqS (ifS (tE (op2 eqO (getP 3) (cE (.int 11)))) (retS (op2 addD (getP 2) (cE (.str "\n")))) nxS)
  (retS (getP 2))))))))))))))))))
def m__law_spoilt_text : List D → Res D := defM 7 b__law_spoilt_text
def b__law_many : Env → SRes :=
  (retS (op2 getD (aE lstD (consA (cE (.int 1)) (consA (cE (.int 2)) (consA (cE (.int 3)) (consA (cE (.int 1)) (consA (cE (.int 2)) (consA (cE (.int 3)) (consA (cE (.int 5)) (consA (cE (.int 6)) nilA))))))))) (op2 modD (aE m__law_draw (consA (getP 0) (consA (cE (.int 0)) (consA (getP 1) nilA)))) (cE (.int 8)))))
def m__law_many : List D → Res D := defM 2 b__law_many
def b__law_text : Env → SRes :=
  (seqS (setS 1 (op2 getD (getP 0) (cE (.int 0))))
  (seqS (forS (gnG 2) (iE (slE (getP 0) (someO (cE (.int 1))) noO)) (seqS (forS (gnG 3) (iE (getP 2)) (setS 1 (op2 addD (op2 addD (getP 1) (cE (.str " "))) (getP 3))))
  (setS 1 (op2 addD (getP 1) (cE (.str " ="))))))
  (retS (slE (getP 1) noO (someO (negE (cE (.int 2))))))))
def m__law_text : List D → Res D := defM 4 b__law_text
def b__law_is_name : Env → SRes :=
  (seqS (setS 1 (cE (.str "abcdefghijklmnopqrstuvwxyz")))
  (seqS (ifS (orT (tE (op2 ltD (aE lenF (consA (getP 0) nilA)) (cE (.int 1)))) (orT (tE (op2 gtD (aE lenF (consA (getP 0) nilA)) (cE (.int 12)))) (tE (op2 notInD (op2 getD (getP 0) (cE (.int 0))) (getP 1))))) (retS (cE (.bl false))) nxS)
  (seqS (forS (gnG 2) (iE (getP 0)) (ifS (andT (tE (op2 notInD (getP 2) (getP 1))) (tE (op2 notInD (getP 2) (cE (.str "0123456789"))))) (retS (cE (.bl false))) nxS))
  (retS (cE (.bl true))))))
def m__law_is_name : List D → Res D := defM 3 b__law_is_name
def b__law_is_good_run : Env → SRes :=
  (seqS (ifS (orT (tE (op2 eqO (aE lenF (consA (getP 0) nilA)) (cE (.int 0)))) (notT (tE (aE m__law_is_name (consA (op2 getD (getP 0) (cE (.int 0))) nilA))))) (retS (cE (.bl false))) nxS)
  (seqS (forS (gnG 1) (iE (slE (getP 0) (someO (cE (.int 1))) noO)) (ifS (orT (tE (op2 notInD (slE (getP 1) noO (someO (cE (.int 1)))) (aE lstD (consA (cE (.str "+")) (consA (cE (.str "-")) nilA))))) (notT (tE (aE m__law_is_name (consA (slE (getP 1) (someO (cE (.int 1))) noO) nilA))))) (retS (cE (.bl false))) nxS))
  (retS (cE (.bl true)))))
def m__law_is_good_run : List D → Res D := defM 2 b__law_is_good_run
def b__law_is_run : Env → SRes :=
  (seqS (ifS (orT (notT (tE (isTE "tuple" (getP 0)))) (tE (op2 eqO (aE lenF (consA (getP 0) nilA)) (cE (.int 0))))) (retS (cE (.bl false))) nxS)
  (seqS (forS (gnG 1) (iE (getP 0)) (ifS (notT (tE (isTE "str" (getP 1)))) (retS (cE (.bl false))) nxS))
  (retS (cE (.bl true)))))
def m__law_is_run : List D → Res D := defM 2 b__law_is_run
def b__law_is_fact : Env → SRes :=
  (seqS (ifS (orT (notT (tE (isTE "tuple" (getP 0)))) (orT (tE (op2 ltD (aE lenF (consA (getP 0) nilA)) (cE (.int 2)))) (notT (tE (isTE "str" (op2 getD (getP 0) (cE (.int 0)))))))) (retS (cE (.bl false))) nxS)
  (seqS (forS (gnG 1) (iE (slE (getP 0) (someO (cE (.int 1))) noO)) (ifS (notT (tE (aE m__law_is_run (consA (getP 1) nilA)))) (retS (cE (.bl false))) nxS))
  (retS (cE (.bl true)))))
def m__law_is_fact : List D → Res D := defM 2 b__law_is_fact
def b_is_name : Env → SRes :=
  (seqS (ifS (orT (notT (tE (chE leD leD (cE (.int 1)) (aE lenF (consA (getP 0) nilA)) (cE (.int 12))))) (tE (op2 notInD (op2 getD (getP 0) (cE (.int 0))) (cE (.str "abcdefghijklmnopqrstuvwxyz"))))) (retS (cE (.bl false))) nxS)
  (seqS (forS (gnG 1) (iE (getP 0)) (ifS (andT (tE (op2 notInD (getP 1) (cE (.str "abcdefghijklmnopqrstuvwxyz")))) (tE (op2 notInD (getP 1) (cE (.str "0123456789"))))) (retS (cE (.bl false))) nxS))
  (retS (cE (.bl true)))))
def m_is_name : List D → Res D := defM 2 b_is_name
def b_is_step : Env → SRes :=
  (retS (andE (op2 inD (slE (getP 0) noO (someO (cE (.int 1)))) (aE tupD (consA (cE (.str "+")) (consA (cE (.str "-")) nilA)))) (aE m_is_name (consA (slE (getP 0) (someO (cE (.int 1))) noO) nilA))))
def m_is_step : List D → Res D := defM 1 b_is_step
def b_check_run : Env → SRes :=
  (seqS (ifS (orT (tE (op2 eqO (aE lenF (consA (getP 0) nilA)) (cE (.int 0)))) (notT (tE (aE m_is_name (consA (op2 getD (getP 0) (cE (.int 0))) nilA))))) (raiseS "BadRun" ["run"] (consA (getP 0) nilA)) nxS)
  (forS (gnG 1) (iE (slE (getP 0) (someO (cE (.int 1))) noO)) (ifS (notT (tE (aE m_is_step (consA (getP 1) nilA)))) (raiseS "BadRun" ["run"] (consA (getP 0) nilA)) nxS)))
def m_check_run : List D → Res D := defM 2 b_check_run
def b_run_of : Env → SRes :=
  (seqS (setS 2 (aE tupleF (consA (getP 0) nilA)))
  (seqS (tryXS (dropS (aE m_check_run (consA (getP 2) nilA))) [("BadRun", true), ("BadLine", false)] (raiseS "BadLine" ["line"] (consA (getP 1) nilA)))
  (retS (getP 2))))
def m_run_of : List D → Res D := defM 3 b_run_of
def b_read_run : Env → SRes :=
  (retS (aE m_run_of (consA (strE splitD (getP 0) (cE (.str " "))) (consA (cE (.int 1)) nilA))))
def m_read_run : List D → Res D := defM 1 b_read_run
def b_fact_of : Env → SRes :=
  (seqS (setS 2 (strE splitD (getP 0) (cE (.str " "))))
  (matS (op2 getD (getP 2) (cE (.int 0))) [(some ["goes", "fails"], (retS (aE tupD (consA (op2 getD (getP 2) (cE (.int 0))) (consA (aE m_run_of (consA (slE (getP 2) (someO (cE (.int 1))) noO) (consA (getP 1) nilA))) nilA))))), (some ["alike", "apart"], (seqS (ifS (tE (op2 neO (lmE countD (getP 2) (cE (.str "="))) (cE (.int 1)))) (raiseS "BadLine" ["line"] (consA (getP 1) nilA)) nxS)
  (seqS (setS 3 (lmE indexD (getP 2) (cE (.str "="))))
  (retS (aE tupD (consA (op2 getD (getP 2) (cE (.int 0))) (consA (aE m_run_of (consA (slE (getP 2) (someO (cE (.int 1))) (someO (getP 3))) (consA (getP 1) nilA))) (consA (aE m_run_of (consA (slE (getP 2) (someO (op2 addD (getP 3) (cE (.int 1)))) noO) (consA (getP 1) nilA))) nilA)))))))), (none, (raiseS "BadLine" ["line"] (consA (getP 1) nilA)))]))
def m_fact_of : List D → Res D := defM 4 b_fact_of
def b_read_fact : Env → SRes :=
  (retS (aE m_fact_of (consA (getP 0) (consA (cE (.int 1)) nilA))))
def m_read_fact : List D → Res D := defM 1 b_read_fact
def b__law_is_integer : Env → SRes :=
  (retS (andE (isTE "int" (getP 0)) (notE (isTE "bool" (getP 0)))))
def m__law_is_integer : List D → Res D := defM 1 b__law_is_integer
def b__law_refused_line : Env → SRes :=
  (seqS (ifS (orT (notT (tE (isXE [("BadRun", true), ("BadLine", true)] (getP 0)))) (notT (tE (isXE [("BadRun", true), ("BadLine", true)] (getP 0))))) (retS (cE (.bl false))) nxS)
  (seqS (ifS (tE (isXE [("BadRun", true), ("BadLine", false)] (getP 0))) (retS (cE (.bl false))) nxS)
  (retS (andE (aE m__law_is_integer (consA (fldXE ["BadLine"] "line" (getP 0)) nilA)) (op2 eqO (fldXE ["BadLine"] "line" (getP 0)) (getP 1))))))
def m__law_refused_line : List D → Res D := defM 2 b__law_refused_line
def b__law_one : Env → SRes :=
  (seqS (tryS (ifS (tE (getP 2)) (setS 4 (aE m_read_run (consA (getP 0) nilA))) (setS 4 (aE m_read_fact (consA (getP 0) nilA)))) [([("BadRun", false), ("BadLine", true)], some 3, (retS (andE (op2 isNO (getP 1) (cE .non)) (aE m__law_refused_line (consA (getP 3) (consA (cE (.int 1)) nilA))))))])
  (seqS (ifS (tE (op2 isNO (getP 1) (cE .non))) (retS (cE (.bl false))) nxS)
  (seqS (ifS (tE (getP 2)) (retS (andE (aE m__law_is_run (consA (getP 4) nilA)) (op2 eqO (getP 4) (getP 1)))) nxS)
  (retS (andE (aE m__law_is_fact (consA (getP 4) nilA)) (op2 eqO (getP 4) (getP 1)))))))
def m__law_one : List D → Res D := defM 5 b__law_one
def b_take : Env → SRes :=
  (ifS (andT (tE (op2 neO (getP 0) (cE (.str "")))) (notT (tE (strE startsD (getP 0) (cE (.str "#")))))) (appS 1 (aE m_fact_of (consA (getP 0) (consA (getP 2) nilA)))) nxS)
def m_read_book : List D → Res D := bookM b_take
def b__law_same_facts : Env → SRes :=
  (seqS (ifS (orT (notT (tE (isTE "list" (getP 0)))) (tE (op2 neO (aE lenF (consA (getP 0) nilA)) (aE lenF (consA (getP 1) nilA))))) (retS (cE (.bl false))) nxS)
  (seqS (forS (gnG 2) (aI range1 (consA (aE lenF (consA (getP 1) nilA)) nilA)) (ifS (orT (notT (tE (aE m__law_is_fact (consA (op2 getD (getP 0) (getP 2)) nilA)))) (tE (op2 neO (op2 getD (getP 0) (getP 2)) (op2 getD (getP 1) (getP 2))))) (retS (cE (.bl false))) nxS))
  (retS (cE (.bl true)))))
def m__law_same_facts : List D → Res D := defM 3 b__law_same_facts
def b__law_is_good_fact : Env → SRes :=
  (seqS (ifS (orT (tE (op2 eqO (aE lenF (consA (getP 0) nilA)) (cE (.int 0)))) (tE (op2 notInD (op2 getD (getP 0) (cE (.int 0))) (aE lstD (consA (cE (.str "goes")) (consA (cE (.str "fails")) (consA (cE (.str "alike")) (consA (cE (.str "apart")) nilA)))))))) (retS (cE (.bl false))) nxS)
  (seqS (setS 1 (cE (.int 2)))
  (seqS (ifS (orT (tE (op2 eqO (op2 getD (getP 0) (cE (.int 0))) (cE (.str "goes")))) (tE (op2 eqO (op2 getD (getP 0) (cE (.int 0))) (cE (.str "fails"))))) (setS 1 (cE (.int 1))) nxS)
  (seqS (ifS (tE (op2 neO (aE lenF (consA (getP 0) nilA)) (op2 addD (getP 1) (cE (.int 1))))) (retS (cE (.bl false))) nxS)
  (seqS (forS (gnG 2) (iE (slE (getP 0) (someO (cE (.int 1))) noO)) (ifS (notT (tE (aE m__law_is_good_run (consA (getP 2) nilA)))) (retS (cE (.bl false))) nxS))
  (retS (cE (.bl true))))))))
def m__law_is_good_fact : List D → Res D := defM 3 b__law_is_good_fact
def b__law_read_fact : Env → SRes :=
  (seqS (setS 1 (strE splitD (getP 0) (cE (.str " "))))
  (seqS (ifS (orT (tE (op2 eqO (op2 getD (getP 1) (cE (.int 0))) (cE (.str "goes")))) (tE (op2 eqO (op2 getD (getP 1) (cE (.int 0))) (cE (.str "fails"))))) (seqS (setS 3 (aE tupD (consA (op2 getD (getP 1) (cE (.int 0))) (consA (aE tupleF (consA (slE (getP 1) (someO (cE (.int 1))) noO) nilA)) nilA))))
  (seqS (ifS (tE (aE m__law_is_good_fact (consA (getP 3) nilA))) (retS (getP 3)) nxS)
  (retS (cE .non)))) nxS)
  (seqS (setS 2 (lcE [4] (gnG 4) (aI range1 (consA (aE lenF (consA (getP 1) nilA)) nilA)) (tE (op2 eqO (op2 getD (getP 1) (getP 4)) (cE (.str "=")))) (getP 4)))
  (seqS (ifS (orT (tE (op2 neO (aE lenF (consA (getP 2) nilA)) (cE (.int 1)))) (tE (op2 eqO (op2 getD (getP 2) (cE (.int 0))) (cE (.int 0))))) (retS (cE .non)) nxS)
  (seqS (setS 3 (aE tupD (consA (op2 getD (getP 1) (cE (.int 0))) (consA (aE tupleF (consA (slE (getP 1) (someO (cE (.int 1))) (someO (op2 getD (getP 2) (cE (.int 0))))) nilA)) (consA (aE tupleF (consA (slE (getP 1) (someO (op2 addD (op2 getD (getP 2) (cE (.int 0))) (cE (.int 1)))) noO) nilA)) nilA)))))
  (seqS (ifS (tE (aE m__law_is_good_fact (consA (getP 3) nilA))) (retS (getP 3)) nxS)
  (retS (cE .non))))))))
def m__law_read_fact : List D → Res D := defM 5 b__law_read_fact
def b__law_all : Env → SRes :=
  (seqS (ownS 1 (aE lstD nilA))
  (seqS (ownS 2 (aE lstD nilA))
  (seqS (setS 3 (strE splitD (getP 0) (cE (.str "\n"))))
  (seqS (forS (gnG 4) (aI range1 (consA (aE lenF (consA (getP 3) nilA)) nilA)) (ifS (andT (tE (op2 neO (op2 getD (getP 3) (getP 4)) (cE (.str "")))) (tE (op2 neO (op2 getD (op2 getD (getP 3) (getP 4)) (cE (.int 0))) (cE (.str "#"))))) (seqS (setS 7 (aE m__law_read_fact (consA (op2 getD (getP 3) (getP 4)) nilA)))
  (seqS (ifS (tE (op2 isNO (getP 7) (cE .non))) (appS 2 (op2 addD (getP 4) (cE (.int 1)))) nxS)
  (appS 1 (getP 7)))) nxS))
  (seqS (tryS (setS 6 (aE m_read_book (consA (getP 0) nilA))) [([("BadRun", false), ("BadLine", true)], some 5, (retS (andE (op2 neO (getB 2) (aE lstD nilA)) (aE m__law_refused_line (consA (getP 5) (consA (op2 getD (getB 2) (cE (.int 0))) nilA))))))])
  (retS (immE (andE (op2 eqO (getB 2) (aE lstD nilA)) (aE (fun ds => guardX (m__law_same_facts ds)) (consA (getP 6) (consA (getB 1) nilA)))))))))))
def m__law_all : List D → Res D := defM 8 b__law_all
def b_law : Env → SRes :=
  (seqS (setS 1 (aE m__law_names (consA (getP 0) (consA (cE (.int 1)) (consA (aE m__law_many (consA (getP 0) (consA (cE (.int 0)) nilA))) nilA)))))
  (seqS (setS 2 (aE m__law_names (consA (getP 0) (consA (cE (.int 2)) (consA (aE m__law_many (consA (getP 0) (consA (cE (.int 1)) nilA))) nilA)))))
  (seqS (setS 3 (aE m__law_raw_fact (consA (getP 0) (consA (cE (.int 3)) (consA (getP 2) (consA (getP 1) (consA (cE (.int 5)) nilA)))))))
  (seqS (setS 4 (aE m__law_spoilt_text (consA (getP 0) (consA (cE (.int 4)) (consA (aE m__law_text (consA (getP 3) nilA)) nilA)))))
  (seqS (setS 5 (slE (aE m__law_text (consA (aE tupD (consA (cE (.str "goes")) (consA (op2 getD (getP 3) (cE (.int 1))) nilA))) nilA)) (someO (cE (.int 5))) noO))
  (seqS (setS 5 (aE m__law_spoilt_text (consA (getP 0) (consA (cE (.int 5)) (consA (getP 5) nilA)))))
  (seqS (setS 6 (aE tupleF (consA (strE splitD (getP 5) (cE (.str " "))) nilA)))
  (seqS (ifS (notT (tE (aE m__law_is_good_run (consA (getP 6) nilA)))) (setS 6 (cE .non)) nxS)
  (seqS (ownS 7 (aE lstD nilA))
  (seqS (forS (gnG 8) (aI range1 (consA (op2 modD (aE m__law_draw (consA (getP 0) (consA (cE (.int 0)) (consA (cE (.int 2)) nilA)))) (cE (.int 6))) nilA)) (seqS (setS 11 (aE m__law_text (consA (aE m__law_raw_fact (consA (getP 0) (consA (op2 addD (cE (.int 6)) (getP 8)) (consA (getP 2) (consA (getP 1) (consA (cE (.int 5)) nilA)))))) nilA)))
  (seqS (ifS (tE (op2 eqO (op2 modD (aE m__law_draw (consA (getP 0) (consA (op2 addD (cE (.int 20)) (getP 8)) (consA (cE (.int 74)) nilA)))) (cE (.int 2))) (cE (.int 1)))) (setS 11 (aE m__law_spoilt_text (consA (getP 0) (consA (op2 addD (cE (.int 20)) (getP 8)) (consA (getP 11) nilA))))) nxS)
  (appS 7 (getP 11)))))
  (seqS (setS 9 (strE joinD (cE (.str "\n")) (getB 7)))
  (seqS (forS (gnG 10) (aI range1 (consA (cE (.int 2)) nilA)) (ifS (orT (notT (tE (aE m__law_one (consA (getP 4) (consA (aE m__law_read_fact (consA (getP 4) nilA)) (consA (cE (.bl false)) nilA)))))) (orT (notT (tE (aE m__law_one (consA (getP 5) (consA (getP 6) (consA (cE (.bl true)) nilA)))))) (notT (tE (aE m__law_all (consA (getP 9) nilA)))))) (retS (cE (.bl false))) nxS))
  (retS (cE (.bl true)))))))))))))))
def m_law : List D → Res D := defM 12 b_law
end VL
namespace VL
open PySem L2
local macro_rules
  | `(tactic| simp_arith [$xs,*]) => `(tactic| simp only [seq_eq, rSeq_nx, rSeq_rt, rSeq_bk, rSeq_ct, rSeq_xc, setS_eq, rSet_ok, ownS_eq, rOwn_ok, retS_eq, rRet_ok, retNS_eq, nxS_eq, bkS_eq, ctS_eq, dropS_eq, rDrop_ok, ifS_eq, rIf_t, rIf_f, asgS_eq, appS_eq, rApp_ok, giveS_eq, VL.give, gnG_eq, getP_eq, getB_eq, rGet_ok, rGetB_ok, rGetB_ow, cE_eq, op2_eq, r2_ok, aE_eq, aI_eq, iE_eq, tE_eq, someO_eq, notE_eq, isTE_eq, r1_ok, toB_ok, toI_ok, notD_ok, noO_eq, nilA_eq, consA_eq, rC_ok, andT_eq, orT_eq, notT_eq, rAnd_t, rAnd_f, rAnd_ok, rOr_t, rOr_f, rOr_ok, rNot_ok, andE_eq, orE_eq, rAndE_t, rAndE_f, rAndE_ok, rOrE_t, rOrE_f, rOrE_ok, ifE_eq, rIfE_ok, slE_eq, rSl_ok, chE_eq, rCh_le, rCh_lelt, rCh_ltlt, rCh_ltle, strE_eq, rStr_ok, immE_eq, rImm_ok, Sat_nx, Sat_rt, Sat_ct, Sat_bk, Sat_xc, thn_nx, thn_rt, thn_ct, thn_bk, thn_xc, lp_nx, lp_ct, lp_bk, lp_rt, lp_xc, add_int, sub_int, mod_int, fdiv_int, lt_int, le_int, gt_int, ge_int, isN_eq, notN_eq, isNon, len_lst, len_tup, len_scr, int_int, get_str, get_tup, get_lst, get_scr, items_str, items_lst, items_tup, lst_nil, sl_tup, sl_lst, isT_bl, eqO_int, eqO_bl, eqO_scr, neO_int, env0, List.map_cons, List.map_nil, List.cons_append, List.nil_append, List.length_cons, List.length_nil, List.replicate, gz_, gs_, sz_, ss_, if_true, if_false, reduceIte, Bool.not_true, Bool.not_false, Bool.false_eq_true, Nat.reduceAdd, Nat.reduceSub, Bool.false_or, Bool.or_false, Bool.true_or, Bool.or_true, Bool.and_true, Bool.true_and, Bool.and_false, Bool.false_and, wipeE, yesT, negE_eq, neg_int, retFS, outO, ofE_ok, str_str, ltX_int, ltX_str, inX_str, notInX_str, list_lst, list_tup, Sat_ro, thn_ro, lp_ro, raiseS_eq, rRaise_ok, raise0S_eq, isXE_eq, fldXE_eq, int_bl, rSet_xc, rDrop_xc, rRet_xc, r1_xc, rC_xc, r2_xc, rIf_xc, outI_nx, outI_rt, outI_nx0, outI_rt0, inE_s, inE_0, lst_k, tup_k, catl_k, Nat.reduceLeDiff, inWE_eq, inW_str, ixWE_eq, guardX_ok, getE_eq, putS_eq, rPut_ok, $xs,*])
local macro_rules
  | `(tactic| simp_all_arith [$xs,*]) => `(tactic| simp only [seq_eq, rSeq_nx, rSeq_rt, rSeq_bk, rSeq_ct, rSeq_xc, setS_eq, rSet_ok, ownS_eq, rOwn_ok, retS_eq, rRet_ok, retNS_eq, nxS_eq, bkS_eq, ctS_eq, dropS_eq, rDrop_ok, ifS_eq, rIf_t, rIf_f, asgS_eq, appS_eq, rApp_ok, giveS_eq, VL.give, gnG_eq, getP_eq, getB_eq, rGet_ok, rGetB_ok, rGetB_ow, cE_eq, op2_eq, r2_ok, aE_eq, aI_eq, iE_eq, tE_eq, someO_eq, notE_eq, isTE_eq, r1_ok, toB_ok, toI_ok, notD_ok, noO_eq, nilA_eq, consA_eq, rC_ok, andT_eq, orT_eq, notT_eq, rAnd_t, rAnd_f, rAnd_ok, rOr_t, rOr_f, rOr_ok, rNot_ok, andE_eq, orE_eq, rAndE_t, rAndE_f, rAndE_ok, rOrE_t, rOrE_f, rOrE_ok, ifE_eq, rIfE_ok, slE_eq, rSl_ok, chE_eq, rCh_le, rCh_lelt, rCh_ltlt, rCh_ltle, strE_eq, rStr_ok, immE_eq, rImm_ok, Sat_nx, Sat_rt, Sat_ct, Sat_bk, Sat_xc, thn_nx, thn_rt, thn_ct, thn_bk, thn_xc, lp_nx, lp_ct, lp_bk, lp_rt, lp_xc, add_int, sub_int, mod_int, fdiv_int, lt_int, le_int, gt_int, ge_int, isN_eq, notN_eq, isNon, len_lst, len_tup, len_scr, int_int, get_str, get_tup, get_lst, get_scr, items_str, items_lst, items_tup, lst_nil, sl_tup, sl_lst, isT_bl, eqO_int, eqO_bl, eqO_scr, neO_int, env0, List.map_cons, List.map_nil, List.cons_append, List.nil_append, List.length_cons, List.length_nil, List.replicate, gz_, gs_, sz_, ss_, if_true, if_false, reduceIte, Bool.not_true, Bool.not_false, Bool.false_eq_true, Nat.reduceAdd, Nat.reduceSub, Bool.false_or, Bool.or_false, Bool.true_or, Bool.or_true, Bool.and_true, Bool.true_and, Bool.and_false, Bool.false_and, wipeE, yesT, negE_eq, neg_int, retFS, outO, ofE_ok, str_str, ltX_int, ltX_str, inX_str, notInX_str, list_lst, list_tup, Sat_ro, thn_ro, lp_ro, raiseS_eq, rRaise_ok, raise0S_eq, isXE_eq, fldXE_eq, int_bl, rSet_xc, rDrop_xc, rRet_xc, r1_xc, rC_xc, r2_xc, rIf_xc, outI_nx, outI_rt, outI_nx0, outI_rt0, inE_s, inE_0, lst_k, tup_k, catl_k, Nat.reduceLeDiff, inWE_eq, inW_str, ixWE_eq, guardX_ok, getE_eq, putS_eq, rPut_ok, m_eq, outS_rt, outS_nx, outS_xc, tryS_eq, rTry_nx, rTry_rt, rTry_xc, hndS_eq, methE_eq, rMeth_ok, propE_eq, rProp_ok, lmE_eqR, rLm_ok, fldIE_eqR, $xs,*])
section
theorem log_lt {i : Int} (h0 : 0 ≤ i) (h : i < 2 ^ 62) : i.natAbs.log2 < 62 := by
  by_cases hz : i.natAbs = 0
  · rw [hz]; decide
  · exact (Nat.log2_lt hz).mpr (by omega)
theorem draw_tail (S : Sl) (k j c : Int) (hk : 0 ≤ k) (hk2 : k < 2 ^ 60) (hj : 0 ≤ j) (hj2 : j < 2 ^ 60) (e6 e7 : Sl) : ∃ z : Int, (
  (seqS (setS 4 (op2 modD (aE intF (consA (op2 addD (op2 addD (op2 addD (op2 mulD (op2 modD (aE intF (consA (getP 3) nilA)) (cE (.int 2147483647))) (cE (.int 48271))) (op2 mulD (getP 1) (cE (.int 30269)))) (op2 mulD (getP 2) (cE (.int 69621)))) (cE (.int 11))) nilA)) (cE (.int 2147483647))))
  (seqS (setS 5 (op2 modD (aE intF (consA (op2 addD (op2 addD (op2 addD (op2 addD (op2 mulD (op2 modD (aE intF (consA (getP 4) nilA)) (cE (.int 46337))) (cE (.int 40692))) (op2 mulD (op2 fdivD (getP 4) (cE (.int 46337))) (cE (.int 16807)))) (op2 mulD (getP 2) (cE (.int 9973)))) (op2 mulD (getP 1) (cE (.int 211)))) (cE (.int 5))) nilA)) (cE (.int 2147483399))))
  (retS (op2 modD (aE intF (consA (op2 fdivD (getP 5) (cE (.int 16))) nilA)) (cE (.int 1000)))))) [S, .sh (.int k), .sh (.int j), .sh (.int c), .no, .no, e6, e7]) = .rt (.int z) ∧ 0 ≤ z ∧ z < 1000 := by
  have m1 : ∀ {i a : Int}, 0 ≤ i → i < 2 ^ 62 → 0 ≤ a → a < 2 ^ 62 → mulD (.int i) (.int a) = .ok (.int (i * a)) := fun h0 h1 h2 h3 => mul_int (by have := log_lt h0 h1; have := log_lt h2 h3; omega)
  have e1 := @m1 (c % 2147483647) 48271 (Int.emod_nonneg _ (by decide)) (by have := Int.emod_lt_of_pos c (show (0 : Int) < 2147483647 by decide); omega) (by decide) (by decide)
  have e2 := @m1 k 30269 hk (by omega) (by decide) (by decide)
  have e3 := @m1 j 69621 hj (by omega) (by decide) (by decide)
  have e4 := @m1 j 9973 hj (by omega) (by decide) (by decide)
  have e5 := @m1 k 211 hk (by omega) (by decide) (by decide)
  have e6' : ∀ f : Int, mulD (.int (f % 2147483647 % 46337)) (.int 40692) = .ok (.int (f % 2147483647 % 46337 * 40692)) := fun f => m1 (Int.emod_nonneg _ (by decide)) (by have := Int.emod_lt_of_pos (f % 2147483647) (show (0 : Int) < 46337 by decide); omega) (by decide) (by decide)
  have e7' : ∀ f : Int, mulD (.int (f % 2147483647 / 46337)) (.int 16807) = .ok (.int (f % 2147483647 / 46337 * 16807)) := fun f => m1 (by omega) (by omega) (by decide) (by decide)
  simp_arith [Int.reduceLT, e1, e2, e3, e4, e5, e6', e7', and_self, SRes.rt.injEq, D.int.injEq]
  exact ⟨_, rfl, Int.emod_nonneg _ (by decide), Int.emod_lt_of_pos _ (by decide)⟩
theorem draw_ex (ns : List Int) (k j : Int) (hk : 0 ≤ k) (hk2 : k < 2 ^ 60) (hj : 0 ≤ j) (hj2 : j < 2 ^ 60) : ∃ d, m__law_draw [.scr ns, .int k, .int j] = .ok d ∧ ∃ z : Int, d = .int z ∧ 0 ≤ z ∧ z < 1000 := by
  refine m_ex ?_
  unfold b__law_draw
  cases hns : ns with
  | nil => simp_arith [List.isEmpty_nil]; exact ⟨0, rfl, by decide, by decide⟩
  | cons n0 nr =>
    rw [← hns]
    have hne : ns.isEmpty = false := by rw [hns]; rfl
    have hl : 0 < ns.length := by rw [hns]; exact Nat.succ_pos _
    have hl' : (0 : Int) < ns.length := by omega
    obtain ⟨c, hc⟩ : ∃ c : Int, seqGet (ns.map D.int) (k % (ns.length : Int)) = .ok (.int c) := by
      have hm : (k % (ns.length : Int)).toNat < ns.length := by
        have := Int.emod_lt_of_pos k hl'
        have := Int.emod_nonneg k (show (ns.length : Int) ≠ 0 by omega)
        omega
      refine ⟨ns[(k % (ns.length : Int)).toNat], ?_⟩
      have := @seqGet_of (ns.map D.int) (k % (ns.length : Int)).toNat (.int ns[(k % (ns.length : Int)).toNat]) (by rw [List.getElem?_map, List.getElem?_eq_getElem hm]; rfl)
      rwa [Int.toNat_of_nonneg (Int.emod_nonneg k (by omega))] at this
    have tl : ∀ e6 e7, Sat { rt := fun d => ∃ z : Int, d = .int z ∧ 0 ≤ z ∧ z < 1000 } _ := fun e6 e7 => by
      obtain ⟨z, h1, h2⟩ := draw_tail (.sh (.scr ns)) k j c hk hk2 hj hj2 e6 e7
      exact Sat.rt h1 ⟨z, rfl, h2⟩
    simp only [seq_eq, ifS_eq, setS_eq, seq_eq, rSeq_nx, rSeq_rt, rSeq_bk, rSeq_ct, rSeq_xc, setS_eq, rSet_ok, ownS_eq, rOwn_ok, retS_eq, rRet_ok, retNS_eq, nxS_eq, bkS_eq, ctS_eq, dropS_eq, rDrop_ok, ifS_eq, rIf_t, rIf_f, asgS_eq, appS_eq, rApp_ok, giveS_eq, VL.give, gnG_eq, getP_eq, getB_eq, rGet_ok, rGetB_ok, rGetB_ow, cE_eq, op2_eq, r2_ok, aE_eq, aI_eq, iE_eq, tE_eq, someO_eq, notE_eq, isTE_eq, r1_ok, toB_ok, toI_ok, notD_ok, noO_eq, nilA_eq, consA_eq, rC_ok, andT_eq, orT_eq, notT_eq, rAnd_t, rAnd_f, rAnd_ok, rOr_t, rOr_f, rOr_ok, rNot_ok, andE_eq, orE_eq, rAndE_t, rAndE_f, rAndE_ok, rOrE_t, rOrE_f, rOrE_ok, ifE_eq, rIfE_ok, slE_eq, rSl_ok, chE_eq, rCh_le, rCh_lelt, rCh_ltlt, rCh_ltle, strE_eq, rStr_ok, immE_eq, rImm_ok, Sat_nx, Sat_rt, Sat_ct, Sat_bk, Sat_xc, thn_nx, thn_rt, thn_ct, thn_bk, thn_xc, lp_nx, lp_ct, lp_bk, lp_rt, lp_xc, add_int, sub_int, mod_int, fdiv_int, lt_int, le_int, gt_int, ge_int, isN_eq, notN_eq, isNon, len_lst, len_tup, len_scr, int_int, get_str, get_tup, get_lst, get_scr, items_str, items_lst, items_tup, lst_nil, sl_tup, sl_lst, isT_bl, eqO_int, eqO_bl, eqO_scr, neO_int, env0, List.map_cons, List.map_nil, List.cons_append, List.nil_append, List.length_cons, List.length_nil, List.replicate, gz_, gs_, sz_, ss_, if_true, if_false, reduceIte, Bool.not_true, Bool.not_false, Bool.false_eq_true, Nat.reduceAdd, Nat.reduceSub, Bool.false_or, Bool.or_false, Bool.true_or, Bool.or_true, Bool.and_true, Bool.true_and, Bool.and_false, Bool.false_and, wipeE, yesT, negE_eq, neg_int, retFS, outO, ofE_ok, str_str, ltX_int, ltX_str, inX_str, notInX_str, list_lst, list_tup, Sat_ro, thn_ro, lp_ro, raiseS_eq, rRaise_ok, raise0S_eq, isXE_eq, fldXE_eq, int_bl, rSet_xc, rDrop_xc, rRet_xc, r1_xc, rC_xc, r2_xc, rIf_xc, outI_nx, outI_rt, outI_nx0, outI_rt0, inE_s, inE_0, lst_k, tup_k, catl_k, Nat.reduceLeDiff, inWE_eq, inW_str, ixWE_eq, guardX_ok, getE_eq, putS_eq, rPut_ok, hne, lenF, hl', hc, pow_18]
    refine Sat.rseq (Sat.ifb (fun _ => ?_) (fun _ => ?_))
    · simp_arith []
      refine Sat.rseq (Sat.forS0 (fun env => ∃ (r : Int) (x : Sl), env = [.sh (.scr ns), .sh (.int k), .sh (.int j), .sh (.int c), .no, .no, .sh (.int r), x]) (ds := rangeD 0 j.toNat) ?_ ⟨c, _, rfl⟩ ?_ ?_)
      · simp_arith []
        exact range1_ok (by omega)
      · rintro d _ env ⟨r, x, rfl⟩
        refine ⟨_, rfl, ?_⟩
        simp_arith [Int.reduceLT, and_self]
        exact ⟨_, _, rfl⟩
      · rintro env ⟨r, x, rfl⟩
        simp_arith []
        refine Sat.ifb (fun _ => ?_) (fun _ => ?_)
        · simp_arith [Int.reduceLT, and_self]
          exact ⟨_, rfl, Int.emod_nonneg _ (by decide), Int.emod_lt_of_pos _ (by decide)⟩
        · simp only [nxS_eq, Sat_nx, thn_nx]
          exact tl _ _
    · simp only [nxS_eq, Sat_nx, thn_nx]
      exact tl _ _
def dr (ns : List Int) (k j : Int) : Int := match m__law_draw [.scr ns, .int k, .int j] with
  | .ok (.int z) => z
  | _ => 0
theorem draw_all (ns : List Int) (k j : Int) (hk : 0 ≤ k) (hk2 : k < 2 ^ 60) (hj : 0 ≤ j) (hj2 : j < 2 ^ 60) : m__law_draw [.scr ns, .int k, .int j] = .ok (.int (dr ns k j)) ∧ 0 ≤ dr ns k j ∧ dr ns k j < 1000 := by
  obtain ⟨d, h1, z, rfl, h2, h3⟩ := draw_ex ns k j hk hk2 hj hj2
  have : dr ns k j = z := by unfold dr; rw [h1]
  rw [this]
  exact ⟨h1, h2, h3⟩
theorem draw_nn (ns : List Int) (k j : Nat) (hk : k < 2 ^ 60) (hj : j < 2 ^ 60) : m__law_draw [.scr ns, .int k, .int j] = .ok (.int (dr ns k j)) := (draw_all ns k j (by omega) (by omega) (by omega) (by omega)).1

end
section
def lowL : List Nat := ("abcdefghijklmnopqrstuvwxyz" : Str).cps.toList
def digL : List Nat := ("0123456789" : Str).cps.toList
def namL (cs : List Nat) : Bool := decide (1 ≤ cs.length) && decide (cs.length ≤ 12) && (match cs with | c :: _ => decide (c ∈ lowL) | [] => false) && cs.all fun c => decide (c ∈ lowL) || decide (c ∈ digL)
def nameB (s : Str) : Bool := namL s.cps.toList
theorem strItems_mem {z : Str} {d : D} (h : d ∈ strItems z) : ∃ c, c ∈ z.cps.toList ∧ d = .str ⟨#[c]⟩ := by
  unfold strItems at h
  obtain ⟨c, h1, h2⟩ := List.mem_map.mp h
  exact ⟨c, h1, h2.symm⟩
theorem notIn_c (c : Nat) (z : Str) : notInD (.str ⟨#[c]⟩) (.str z) = .ok (.bl (!decide (c ∈ z.cps.toList))) := rfl
theorem name_head {s : Str} (h : 1 ≤ s.length) (hl : s.length ≤ sizeLine) : ∃ c r, s.cps.toList = c :: r ∧ strGet s 0 = .ok (.str ⟨#[c]⟩) := by
  obtain ⟨c, h1, h2⟩ := @strGet_of s 0 hl h
  cases q : s.cps.toList with
  | nil => rw [q] at h1; cases h1
  | cons c' r =>
    rw [q] at h1
    cases h1
    exact ⟨_, r, rfl, h2⟩
theorem name_loop {P : Post} {i : Nat} {s : Str} {ψ : Env → SRes} {p : Nat → Bool} {env : Env} {ι : Env → Res (List D)} (hi : ι env = .ok (strItems s)) (I : Env → Prop) (h0 : I env)
    (hb : ∀ c env, I env → ∃ e2, I e2 ∧ ψ (env.set i (.sh (.str ⟨#[c]⟩))) = if p c = true then .nx e2 else .rt (.bl false))
    (hf : s.cps.toList.all p = false → P.rt (.bl false)) (ht : s.cps.toList.all p = true → ∀ env, I env → P.nx env) : Sat P (forS (gnG i) ι ψ env) := by
  by_cases ha : s.cps.toList.all p = true
  · refine Sat.forS0 I hi h0 ?_ (ht ha)
    rintro d hd env hI
    obtain ⟨c, hc, rfl⟩ := strItems_mem hd
    refine ⟨_, rfl, ?_⟩
    obtain ⟨e2, h2, h3⟩ := hb c env hI
    have : p c = true := List.all_eq_true.mp ha c hc
    rw [if_pos this] at h3
    rw [h3]
    exact h2
  · have hf' := hf (by simpa using ha)
    unfold VL.forS ofA
    rw [hi]
    have : ∀ cs : List Nat, ¬ cs.all p = true → ∀ env, I env → Sat P (forL (gnG i) ψ (cs.map fun c => D.str ⟨#[c]⟩) env) := by
      intro cs
      induction cs with
      | nil => intro h; exact absurd rfl h
      | cons c cs ih =>
        intro h env hI
        obtain ⟨e2, h2, h3⟩ := hb c env hI
        rw [List.map_cons]
        unfold forL
        show Sat P (flowL (ψ (env.set i (.sh (.str ⟨#[c]⟩)))) _)
        by_cases hc : p c = true
        · rw [if_pos hc] at h3
          rw [h3]
          refine ih (fun h' => h ?_) e2 h2
          rw [List.all_cons, hc, h']; rfl
        · rw [if_neg hc] at h3
          rw [h3]
          exact hf'
    exact this _ ha env h0
theorem len_cut (z : Str) (l u : Option Int) : (cutS z l u).length ≤ z.length := by
  unfold cutS
  rw [str_len]
  show ((z.cps.toList.drop _).take _).length ≤ z.cps.toList.length
  rw [List.length_take, List.length_drop]
  omega
end
section
def abc36 : Str := "abcdefghijklmnopqrstuvwxyz0123456789"
theorem abc36_len : abc36.length = 36 := by decide +kernel
theorem abc36_all : ∀ c ∈ abc36.cps.toList, c ∈ lowL ∨ c ∈ digL := by decide +kernel
def partB (s : Str) : Prop := ∀ c ∈ s.cps.toList, c ∈ lowL ∨ c ∈ digL
theorem name_of {s : Str} {c : Nat} {r : List Nat} (h : s.cps.toList = c :: r) (hc : c ∈ lowL) (hr : ∀ c ∈ r, c ∈ lowL ∨ c ∈ digL) (hl : r.length ≤ 11) : nameB s = true := by
  unfold nameB namL
  rw [h]
  have e1 : decide (1 ≤ (c :: r).length) = true := decide_eq_true (by rw [List.length_cons]; omega)
  have e2 : decide ((c :: r).length ≤ 12) = true := decide_eq_true (by rw [List.length_cons]; omega)
  have e3 : (c :: r).all (fun c => decide (c ∈ lowL) || decide (c ∈ digL)) = true := List.all_eq_true.mpr fun x hx => by
    rcases List.mem_cons.mp hx with rfl | hx
    · rw [decide_eq_true hc]; rfl
    · rcases hr x hx with h | h
      · rw [decide_eq_true h]; rfl
      · rw [decide_eq_true h, Bool.or_true]
  simp only [e1, e2, e3, decide_eq_true hc, Bool.and_self]
theorem cut_toList (z : Str) (l u : Option Int) : (cutS z l u).cps.toList = (z.cps.toList.drop (HT.sIx z.length 0 l)).take (HT.sIx z.length z.length u - HT.sIx z.length 0 l) := rfl
theorem mem_cut {z : Str} {l u : Option Int} {c : Nat} (h : c ∈ (cutS z l u).cps.toList) : c ∈ z.cps.toList := by
  rw [cut_toList] at h
  exact List.mem_of_mem_drop (List.mem_of_mem_take h)
theorem strGet_low (m : Int) (hm0 : 0 ≤ m) (hm : m < 26) : ∃ c, strGet abc36 m = .ok (.str ⟨#[c]⟩) ∧ c ∈ lowL := by
  obtain ⟨m, rfl⟩ := Int.eq_ofNat_of_zero_le hm0
  obtain ⟨c, h1, h2⟩ := @strGet_of abc36 m (by rw [abc36_len]; decide) (by rw [abc36_len]; omega)
  refine ⟨c, h2, ?_⟩
  have : ∀ i : Fin 26, ∀ c, abc36.cps.toList[i.1]? = some c → c ∈ lowL := by
    have : (List.range 26).all (fun i => match abc36.cps.toList[i]? with | some c => decide (c ∈ lowL) | none => true) = true := by decide +kernel
    intro i c h
    have := List.all_eq_true.mp this i.1 (List.mem_range.mpr i.2)
    rw [h] at this
    exact of_decide_eq_true this
  exact this ⟨m, by omega⟩ c h1
theorem names_base (ns : List Int) (k : Nat) (hk : k < 2 ^ 59) (x2 x4 x5 x6 x7 x8 x9 x10 x11 : Sl) : ∃ b : Str, strE joinD (cE (.str "")) (lcE [9] (gnG 9) (aI range1 (consA (cE (.int 12)) nilA)) yesT (op2 getD (getP 3) (op2 modD (aE m__law_draw (consA (getP 0) (consA (getP 1) (consA (op2 addD (cE (.int 1)) (getP 9)) nilA)))) (cE (.int 36))))) [.sh (.scr ns), .sh (.int (k : Int)), x2, .sh (.str abc36), x4, x5, x6, x7, x8, x9, x10, x11] = .ok (.str b) ∧ b.length = 12 ∧ partB b := by
  obtain ⟨ys, h1, h2, h3⟩ := lcE_ex (vs := [9]) (γ := gnG 9) (φ := op2 getD (getP 3) (op2 modD (aE m__law_draw (consA (getP 0) (consA (getP 1) (consA (op2 addD (cE (.int 1)) (getP 9)) nilA)))) (cE (.int 36)))) (ι := aI range1 (consA (cE (.int 12)) nilA)) (env := [.sh (.scr ns), .sh (.int (k : Int)), x2, .sh (.str abc36), x4, x5, x6, x7, x8, x9, x10, x11])
    (fun d => ∃ c : Nat, d = .str ⟨#[c]⟩ ∧ (c ∈ lowL ∨ c ∈ digL)) (ds := rangeD 0 12) rfl (by rw [rangeD_len]; decide) (fun d hd => by
      obtain ⟨i, hi, rfl⟩ := rangeD_mem hd
      refine ⟨_, rfl, ?_⟩
      have hd := (draw_all ns k (1 + (0 + (i : Int))) (by omega) (by omega) (by omega) (by omega)).1
      obtain ⟨c, h1, h2⟩ := pick_str abc36 36 (by rw [abc36_len]; decide) (by decide) (by rw [abc36_len]; decide) (dr ns k (1 + (0 + (i : Int))))
      refine ⟨.str ⟨#[c]⟩, ?_, c, rfl, abc36_all c h2⟩
      simp_arith [Int.reduceLT, hd, h1])
  obtain ⟨cs, rfl⟩ : ∃ cs : List Nat, ys = cs.map fun c => D.str ⟨#[c]⟩ := by
    clear h1 h2
    induction ys with
    | nil => exact ⟨[], rfl⟩
    | cons y ys ih =>
      obtain ⟨cs, rfl⟩ := ih fun y hy => h3 y (List.mem_cons_of_mem _ hy)
      obtain ⟨c, rfl, _⟩ := h3 y (List.mem_cons_self ..)
      exact ⟨c :: cs, rfl⟩
  rw [List.length_map, rangeD_len] at h2
  have hm : ∀ c ∈ cs, c ∈ lowL ∨ c ∈ digL := fun c hc => by
    obtain ⟨c', e, h⟩ := h3 (.str ⟨#[c]⟩) (List.mem_map.mpr ⟨c, hc, rfl⟩)
    cases e
    exact h
  have hj := join_of (Str.ofString "") (cs.map fun c => (⟨#[c]⟩ : Str)) (by
    have := sum_le (cs.map fun c => (⟨#[c]⟩ : Str)) 1 (fun s hs => by
      obtain ⟨c, _, rfl⟩ := List.mem_map.mp hs
      exact Nat.le_refl 1)
    rw [List.length_map, h2] at *
    have e : (Str.ofString "").length = 0 := by decide +kernel
    rw [e]
    omega)
  have hf : ∀ l : List Nat, ((l.map fun c => (⟨#[c]⟩ : Str)).map fun s => s.cps.toList).flatten = l := by
    intro l
    induction l with
    | nil => rfl
    | cons c l ih =>
      rw [List.map_cons, List.map_cons, List.flatten_cons, ih]
      rfl
  refine ⟨Txt.join (Str.ofString "") (cs.map fun c => (⟨#[c]⟩ : Str)), ?_, ?_, ?_⟩
  · simp only [strE_eq, cE_eq, h1, rStr_ok]
    rw [List.map_map] at hj
    exact hj
  · rw [str_len, tl_join0, hf, h2]
  · unfold partB
    rw [tl_join0, hf]
    exact hm

end
section
theorem m_tl : ("m" : Str).cps.toList = [109] := by decide +kernel
theorem names_ex (ns : List Int) (k many : Nat) (hk : k < 2 ^ 59) (hm : many ≤ 8) : ∃ l : List Str, m__law_names [.scr ns, .int (k : Int), .int (many : Int)] = .ok (.lst (l.map .str)) ∧ l.length = many ∧ ∀ s ∈ l, nameB s = true := by
  have key : ∃ d, m__law_names [.scr ns, .int (k : Int), .int (many : Int)] = .ok d ∧ ∃ l : List Str, d = .lst (l.map .str) ∧ l.length = many ∧ ∀ s ∈ l, nameB s = true := by
    refine m_ex ?_
    unfold b__law_names
    have dd : ∀ j : Nat, j < 100 → m__law_draw [.scr ns, .int (k : Int), .int (j : Int)] = .ok (.int (dr ns k j)) := fun j hj => draw_nn ns k j (by omega) (by omega)
    have d0 : m__law_draw [.scr ns, .int (k : Int), .int 0] = .ok (.int (dr ns k 0)) := dd 0 (by decide)
    have d13 : m__law_draw [.scr ns, .int (k : Int), .int 13] = .ok (.int (dr ns k 13)) := dd 13 (by decide)
    have d14 : m__law_draw [.scr ns, .int (k : Int), .int 14] = .ok (.int (dr ns k 14)) := dd 14 (by decide)
    refine Sat.seq (Sat.nx rfl ?_)
    show Sat _ (seqS _ _ [.sh (.scr ns), .sh (.int (k : Int)), .sh (.int (many : Int)), .sh (.str abc36), .no, .no, .no, .no, .no, .no, .no, .no])
    rw [seq_eq]
    simp only [setS_eq, op2_eq, aE_eq, consA_eq, nilA_eq, getP_eq, cE_eq, gz_, gs_, rGet_ok, rC_ok, r1_ok, d0, r2_ok, mod_int, Int.reduceLT, rSet_ok, rSeq_nx, sz_, ss_]
    generalize dr ns k 0 % 3 = mode
    obtain ⟨b, hb, hbl, hbp⟩ := names_base ns k hk (.sh (.int (many : Int))) (.sh (.int mode)) .no .no .no .no .no .no .no
    have hB : addD (.str "m") (.str b) = .ok (.str (("m" : Str) ++ b)) := add_str (le_line (by rw [hbl]; decide +kernel))
    rw [seq_eq, setS_eq, op2_eq, hb]
    simp only [cE_eq, r2_ok, hB, rSet_ok, rSeq_nx, sz_, ss_]
    have hBt : (("m" : Str) ++ b).cps.toList = 109 :: b.cps.toList := by rw [str_app, m_tl]; rfl
    have hBl : (("m" : Str) ++ b).length = 13 := by rw [str_app_len, hbl]; decide +kernel
    generalize ("m" : Str) ++ b = B at hBt hBl
    have z0 := Int.emod_nonneg (dr ns k 13) (show (12 : Int) ≠ 0 by decide)
    have z1 := Int.emod_lt_of_pos (dr ns k 13) (show (0 : Int) < 12 by decide)
    have hz : (0 : Int) < 1 + dr ns k 13 % 12 := by omega
    simp_arith [d13, d14, mod_int (show (0 : Int) < 12 by decide), mod_int hz]
    generalize dr ns k 13 % 12 = z at z0 z1 hz
    have p0 := Int.emod_nonneg (dr ns k 14) (show 1 + z ≠ 0 by omega)
    have p1 := Int.emod_lt_of_pos (dr ns k 14) hz
    generalize dr ns k 14 % (1 + z) = p at p0 p1
    obtain ⟨z, rfl⟩ := Int.eq_ofNat_of_zero_le z0
    obtain ⟨p, rfl⟩ := Int.eq_ofNat_of_zero_le p0
    let I : Nat → Env → Prop := fun i env => ∃ (l : List Str) (x y w : Sl), env = [.sh (.scr ns), .sh (.int (k : Int)), .sh (.int (many : Int)), .sh (.str abc36), .sh (.int mode), .sh (.str B), .sh (.int (1 + (z : Int))), .sh (.int (p : Int)), .ow (.lst (l.map .str)), x, y, w] ∧ l.length = i ∧ ∀ s ∈ l, nameB s = true
    refine Sat.rseq ?_
    with_reducible refine Sat.forS I (ds := rangeD 0 many) ?_ ?_ ?_ ?_
    · simp_arith []
      rw [range1_nat (by omega)]
    · exact ⟨[], _, _, _, rfl, rfl, by simp⟩
    · rintro i d env hd ⟨l, x, y, w, rfl, hl, hall⟩
      obtain ⟨hi, rfl⟩ := rangeD_get hd
      refine ⟨_, rfl, ?_⟩
      have hdi : m__law_draw [.scr ns, .int (k : Int), .int (15 + (0 + (i : Int)))] = .ok (.int (dr ns k (15 + (0 + (i : Int))))) := (draw_all ns k _ (by omega) (by omega) (by omega) (by omega)).1
      have hBp : ∀ c ∈ b.cps.toList, c ∈ lowL ∨ c ∈ digL := hbp
      -- the last: append
      have fin : ∀ (s : Str) (x9 x10 : Sl), nameB s = true → Sat (((Post.mk (fun _ => False) (fun _ => False) (fun _ => False) (fun d => ∃ l : List Str, d = .lst (l.map .str) ∧ l.length = many ∧ ∀ s ∈ l, nameB s = true) (fun _ _ _ => False) (fun _ => False)).thn (giveS 8 (retS (getP 8)))).lp (I (i + 1))) (appS 8 (getP 11) [.sh (.scr ns), .sh (.int (k : Int)), .sh (.int (many : Int)), .sh (.str abc36), .sh (.int mode), .sh (.str B), .sh (.int (1 + (z : Int))), .sh (.int (p : Int)), .ow (.lst (l.map .str)), x9, x10, .sh (.str s)]) := fun s x9 x10 hs => by
        have hlt : (l.map D.str).length < sizeLine := by rw [List.length_map]; exact Nat.lt_of_lt_of_le (show l.length < 1000000 by omega) (le_line (Nat.le_refl _))
        simp_arith [if_pos hlt]
        refine ⟨l ++ [s], _, _, _, by rw [List.map_append]; rfl, by rw [List.length_append, hl]; rfl, fun t ht => ?_⟩
        rcases List.mem_append.mp ht with h | h
        · exact hall t h
        · rw [List.mem_singleton.mp h]; exact hs
      obtain ⟨c, hc, hcl⟩ := strGet_low (dr ns k (15 + (0 + (i : Int))) % 26) (Int.emod_nonneg _ (by decide)) (Int.emod_lt_of_pos _ (by decide))
      have y0 := Int.emod_nonneg (dr ns k (15 + (0 + (i : Int))) / 26) (show (12 : Int) ≠ 0 by decide)
      have y1 := Int.emod_lt_of_pos (dr ns k (15 + (0 + (i : Int))) / 26) (show (0 : Int) < 12 by decide)
      have hBn : ∀ (u : Option Int) (q : Nat) (c : Nat), c ∈ (cutS B (some ((q + 1 : Nat) : Int)) u).cps.toList → c ∈ lowL ∨ c ∈ digL := fun u q c h => by
        rw [cut_toList, HT.sIx_nat, hBt, hBl] at h
        have h' := List.mem_of_mem_take h
        have : ∃ q', min (q + 1) 13 = q' + 1 := ⟨min (q + 1) 13 - 1, by omega⟩
        obtain ⟨q', e⟩ := this
        rw [e, List.drop_succ_cons] at h'
        exact hBp c (List.mem_of_mem_drop h')
      have hsl : sliceD (.str B) (some 1) (some (1 + dr ns k (15 + (0 + (i : Int))) / 26 % 12)) = .ok (.str (cutS B (some 1) (some (1 + dr ns k (15 + (0 + (i : Int))) / 26 % 12)))) := sl_str (le_line (by omega))
      have ha : addD (.str ⟨#[c]⟩) (.str (cutS B (some 1) (some (1 + dr ns k (15 + (0 + (i : Int))) / 26 % 12)))) = .ok (.str ((⟨#[c]⟩ : Str) ++ cutS B (some 1) (some (1 + dr ns k (15 + (0 + (i : Int))) / 26 % 12)))) := add_str (le_line (by have := len_cut B (some 1) (some (1 + dr ns k (15 + (0 + (i : Int))) / 26 % 12)); rw [str_sing]; omega))
      have hn0 : nameB ((⟨#[c]⟩ : Str) ++ cutS B (some 1) (some (1 + dr ns k (15 + (0 + (i : Int))) / 26 % 12))) = true := by
        refine name_of (c := c) (r := (cutS B (some 1) (some (1 + dr ns k (15 + (0 + (i : Int))) / 26 % 12))).cps.toList) (by rw [str_app]; rfl) hcl (fun c h => hBn _ 0 c h) ?_
        generalize dr ns k (15 + (0 + (i : Int))) / 26 % 12 = yy at y0 y1
        obtain ⟨yy, rfl⟩ := Int.eq_ofNat_of_zero_le y0
        rw [cut_toList, List.length_take, show (1 : Int) + (yy : Int) = ((1 + yy : Nat) : Int) by omega, HT.sIx_nat, show (1 : Int) = ((1 : Nat) : Int) from rfl, HT.sIx_nat, hBl]
        omega
      simp_arith [Int.reduceLT, and_self, hdi, show strGet abc36 (dr ns k (15 + (0 + (i : Int))) % 26) = .ok (.str ⟨#[c]⟩) from hc, hsl, ha]
      generalize (⟨#[c]⟩ : Str) ++ cutS B (some 1) (some (1 + dr ns k (15 + (0 + (i : Int))) / 26 % 12)) = nm at hn0
      -- mode 0, then mode 1
      have rest : ∀ (s : Str), nameB s = true → Sat (((Post.mk (fun _ => False) (fun _ => False) (fun _ => False) (fun d => ∃ l : List Str, d = .lst (l.map .str) ∧ l.length = many ∧ ∀ s ∈ l, nameB s = true) (fun _ _ _ => False) (fun _ => False)).thn (giveS 8 (retS (getP 8)))).lp (I (i + 1))) (seqS (ifS (tE (op2 eqO (getP 4) (cE (.int 1)))) (setS 11 (op2 addD (op2 addD (slE (getP 5) noO (someO (getP 7))) (op2 getD (getP 3) (op2 modD (aE intF (consA (op2 addD (getP 10) (getP 9)) nilA)) (cE (.int 26))))) (slE (getP 5) (someO (op2 addD (getP 7) (cE (.int 1)))) (someO (getP 6))))) nxS) (appS 8 (getP 11)) [.sh (.scr ns), .sh (.int (k : Int)), .sh (.int (many : Int)), .sh (.str abc36), .sh (.int mode), .sh (.str B), .sh (.int (1 + (z : Int))), .sh (.int (p : Int)), .ow (.lst (l.map .str)), .sh (.int (0 + (i : Int))), .sh (.int (dr ns k (15 + (0 + (i : Int))))), .sh (.str s)]) := fun s hs => by
        rw [seq_eq]
        simp only [ifS_eq, tE_eq, op2_eq, getP_eq, cE_eq, gz_, gs_, rGet_ok, r2_ok, r1_ok, eqO_int, toB_ok]
        refine Sat.rseq (Sat.ifP (fun _ => ?_) (fun _ => ?_))
        · obtain ⟨c2, hc2, hcl2⟩ := strGet_low ((dr ns k (15 + (0 + (i : Int))) + (0 + (i : Int))) % 26) (Int.emod_nonneg _ (by decide)) (Int.emod_lt_of_pos _ (by decide))
          have s1 : sliceD (.str B) none (some (p : Int)) = .ok (.str (cutS B none (some (p : Int)))) := sl_str (le_line (by omega))
          have s2 : sliceD (.str B) (some ((p : Int) + 1)) (some (1 + (z : Int))) = .ok (.str (cutS B (some ((p : Int) + 1)) (some (1 + (z : Int))))) := sl_str (le_line (by omega))
          have l1 := len_cut B none (some (p : Int))
          have l2 := len_cut B (some ((p : Int) + 1)) (some (1 + (z : Int)))
          have a1 : addD (.str (cutS B none (some (p : Int)))) (.str ⟨#[c2]⟩) = .ok (.str (cutS B none (some (p : Int)) ++ ⟨#[c2]⟩)) := add_str (le_line (by rw [str_sing]; omega))
          have a2 : addD (.str (cutS B none (some (p : Int)) ++ ⟨#[c2]⟩)) (.str (cutS B (some ((p : Int) + 1)) (some (1 + (z : Int))))) = .ok (.str (cutS B none (some (p : Int)) ++ ⟨#[c2]⟩ ++ cutS B (some ((p : Int) + 1)) (some (1 + (z : Int))))) := add_str (le_line (by rw [str_app_len, str_sing]; omega))
          simp_arith [Int.reduceLT, s1, s2, show strGet abc36 ((dr ns k (15 + (0 + (i : Int))) + (0 + (i : Int))) % 26) = .ok (.str ⟨#[c2]⟩) from hc2, a1, a2]
          refine fin _ _ _ ?_
          have t2 : ∀ c ∈ (cutS B (some ((p : Int) + 1)) (some (1 + (z : Int)))).cps.toList, c ∈ lowL ∨ c ∈ digL := fun c h => hBn _ p c h
          have t2l : (cutS B (some ((p : Int) + 1)) (some (1 + (z : Int)))).cps.toList.length ≤ z - p := by
            rw [cut_toList, List.length_take, show (1 : Int) + (z : Int) = ((1 + z : Nat) : Int) by omega, show (p : Int) + 1 = ((p + 1 : Nat) : Int) by omega, HT.sIx_nat, HT.sIx_nat, hBl]
            omega
          have t1 : (cutS B none (some (p : Int))).cps.toList = B.cps.toList.take p := by
            rw [cut_toList, HT.sIx_nat, HT.sIx_none, hBl, List.drop_zero, Nat.sub_zero, Nat.min_eq_left (by omega)]
          cases p with
          | zero =>
            refine name_of (c := c2) (r := (cutS B (some (((0 : Nat) : Int) + 1)) (some (1 + (z : Int)))).cps.toList) ?_ hcl2 t2 (by omega)
            rw [str_app, str_app, t1]
            rfl
          | succ p =>
            refine name_of (c := 109) (r := b.cps.toList.take p ++ c2 :: (cutS B (some (((p + 1 : Nat) : Int) + 1)) (some (1 + (z : Int)))).cps.toList) ?_ (by decide +kernel) ?_ ?_
            · rw [str_app, str_app, t1, hBt, List.take_succ_cons]
              simp
            · intro c hc
              rcases List.mem_append.mp hc with h | h
              · exact hBp c (List.mem_of_mem_take h)
              · rcases List.mem_cons.mp h with rfl | h
                · exact .inl hcl2
                · exact t2 c h
            · rw [List.length_append, List.length_cons, List.length_take]
              omega
        · simp only [nxS_eq, Sat_nx, thn_nx]
          exact fin s _ _ hs
      refine Sat.rseq (Sat.ifP (fun _ => ?_) (fun _ => ?_))
      · have h8 : Str.length "abcdefgh" = 8 := by decide +kernel
        obtain ⟨c3, h3, h4⟩ := @strGet_of "abcdefgh" i (by decide +kernel) (by rw [h8]; omega)
        simp only [setS_eq, op2_eq, cE_eq, getP_eq, gz_, gs_, rGet_ok, r2_ok, get_str, Int.zero_add, h4, rSet_ok, Sat_nx, thn_nx, sz_, ss_]
        have := rest ⟨#[c3]⟩ (name_of (c := c3) (r := []) rfl (by
          have : ∀ c ∈ ("abcdefgh" : Str).cps.toList, c ∈ lowL := by decide +kernel
          exact this c3 (List.mem_of_getElem? h3)) (by simp) (by simp))
        rw [Int.zero_add] at this
        exact this
      · simp only [nxS_eq, Sat_nx, thn_nx]
        exact rest nm hn0
    · rintro env ⟨l, x, y, w, rfl, hl, hall⟩
      rw [rangeD_len] at hl
      simp_arith []
      exact ⟨l, rfl, hl, hall⟩
  obtain ⟨d, h1, l, rfl, h2, h3⟩ := key
  exact ⟨l, h1, h2, h3⟩

end
section
theorem okS_of {s : Str} (h : ∀ c ∈ s.cps.toList, c < 0x110000) : okS s = true := by
  unfold okS
  rw [Array.all_eq_true]
  intro i hi
  exact decide_eq_true (h _ (by rw [Array.mem_toList_iff]; exact Array.getElem_mem hi))
theorem low_lt : ∀ c ∈ lowL, c < 0x110000 := by decide +kernel
theorem dig_lt : ∀ c ∈ digL, c < 0x110000 := by decide +kernel
theorem name_parts {s : Str} (h : nameB s = true) : ∃ c r, s.cps.toList = c :: r ∧ c ∈ lowL ∧ (∀ c ∈ s.cps.toList, c ∈ lowL ∨ c ∈ digL) ∧ s.length ≤ 12 := by
  unfold nameB namL at h
  simp only [Bool.and_eq_true, decide_eq_true_eq, List.all_eq_true, Bool.or_eq_true] at h
  obtain ⟨⟨⟨_, h2⟩, h3⟩, h4⟩ := h
  cases q : s.cps.toList with
  | nil => rw [q] at h3; cases h3
  | cons c r =>
    rw [q] at h3 h4
    exact ⟨c, r, rfl, of_decide_eq_true h3, h4, h2⟩
theorem name_ok {s : Str} (h : nameB s = true) : okS s = true := by
  obtain ⟨c, r, _, _, h4, _⟩ := name_parts h
  exact okS_of fun c hc => (h4 c hc).elim (low_lt c) (dig_lt c)
theorem plus_tl : ("+" : Str).cps.toList = [43] := by decide +kernel
theorem minus_tl : ("-" : Str).cps.toList = [45] := by decide +kernel
end
section
theorem cutD_from (xs : List D) (k : Nat) : cutD xs (some (k : Int)) none = xs.drop k := by
  unfold cutD
  rw [HT.sIx_nat, HT.sIx_none]
  by_cases h : k ≤ xs.length
  · rw [Nat.min_eq_left h]
    exact List.take_of_length_le (by rw [List.length_drop]; omega)
  · rw [Nat.min_eq_right (by omega), Nat.sub_self, List.take_zero, List.drop_of_length_le (by omega)]
theorem cutS_from (z : Str) (k : Nat) : (cutS z (some (k : Int)) none).cps.toList = z.cps.toList.drop k := by
  rw [cut_toList, HT.sIx_nat, HT.sIx_none]
  by_cases h : k ≤ z.length
  · rw [Nat.min_eq_left h]
    exact List.take_of_length_le (by rw [List.length_drop]; exact Nat.le_refl _)
  · rw [Nat.min_eq_right (by omega), Nat.sub_self, List.take_zero, List.drop_of_length_le (by rw [← str_len]; omega)]
theorem cutS_to (z : Str) (k : Nat) : (cutS z none (some (k : Int))).cps.toList = z.cps.toList.take k := by
  rw [cut_toList, HT.sIx_nat, HT.sIx_none, Nat.sub_zero, List.drop_zero]
  by_cases h : k ≤ z.length
  · rw [Nat.min_eq_left h]
  · rw [Nat.min_eq_right (by omega), str_len, List.take_of_length_le (Nat.le_refl _), List.take_of_length_le (by rw [← str_len]; omega)]
def txts (l : List Str) : List D := l.map .str
theorem txts_len (l : List Str) : (txts l).length = l.length := List.length_map ..
theorem txts_get {l : List Str} {i : Nat} {s : Str} (h : l[i]? = some s) : seqGet (txts l) (i : Int) = .ok (.str s) := seqGet_of (by unfold txts; rw [List.getElem?_map, h]; rfl)
def stepB (s : Str) : Bool := match s.cps.toList with
  | c :: r => (decide (c = 43) || decide (c = 45)) && namL r
  | [] => false
structure RunL (l : List Str) : Prop where
  ex : ∃ s r, l = s :: r ∧ nameB s = true ∧ ∀ t ∈ r, stepB t = true
theorem step_parts {s : Str} (h : stepB s = true) : ∃ c r, s.cps.toList = c :: r ∧ (c = 43 ∨ c = 45) ∧ namL r = true ∧ s.length ≤ 13 ∧ ∀ z ∈ s.cps.toList, z < 0x110000 := by
  unfold stepB at h
  cases q : s.cps.toList with
  | nil => rw [q] at h; cases h
  | cons c r =>
    rw [q] at h
    simp only [Bool.and_eq_true, Bool.or_eq_true, decide_eq_true_eq] at h
    have hn : nameB ⟨r.toArray⟩ = true := h.2
    obtain ⟨c', r', h1, h2, h3, h4⟩ := name_parts hn
    have h4' : r.length ≤ 12 := h4
    refine ⟨c, r, rfl, h.1, h.2, by rw [str_len, q, List.length_cons]; omega, fun z hz => ?_⟩
    rcases List.mem_cons.mp hz with rfl | hz
    · rcases h.1 with rfl | rfl <;> decide
    · exact (h3 z hz).elim (low_lt z) (dig_lt z)
theorem step_ok {s : Str} (h : stepB s = true) : okS s = true := by
  obtain ⟨_, _, _, _, _, _, h⟩ := step_parts h
  exact okS_of h
theorem RunL.ok {l : List Str} (h : RunL l) : ∀ s ∈ l, okS s = true := by
  obtain ⟨s, r, rfl, h1, h2⟩ := h.ex
  intro t ht
  rcases List.mem_cons.mp ht with rfl | ht
  · exact name_ok h1
  · exact step_ok (h2 t ht)
theorem step_of {g n : Str} {x : Nat} (hg : g.cps.toList = [x]) (hx : x = 43 ∨ x = 45) (hn : nameB n = true) : stepB (g ++ n) = true := by
  unfold stepB
  rw [str_app, hg]
  show ((decide (x = 43) || decide (x = 45)) && namL n.cps.toList) = true
  rw [show namL n.cps.toList = true from hn]
  rcases hx with rfl | rfl <;> rfl
theorem RunL.app {l m : List Str} (h : RunL l) (hm : ∀ s ∈ m, stepB s = true) : RunL (l ++ m) := by
  obtain ⟨s, r, rfl, h1, h2⟩ := h.ex
  exact ⟨s, r ++ m, rfl, h1, fun t ht => (List.mem_append.mp ht).elim (h2 t) (hm t)⟩
theorem RunL.tl {s : Str} {r : List Str} (h : RunL (s :: r)) : ∀ t ∈ r, stepB t = true := by
  obtain ⟨_, _, e, _, h2⟩ := h.ex
  cases e
  exact h2
theorem txts_app (l m : List Str) : txts (l ++ m) = txts l ++ txts m := List.map_append

end
section
end
section
theorem pick_txt (l : List Str) (hl : l ≠ []) (z : Int) : ∃ s, seqGet (txts l) (z % (l.length : Int)) = .ok (.str s) ∧ s ∈ l := by
  have h0 : 0 < l.length := List.length_pos_iff.mpr hl
  obtain ⟨d, h1, h2⟩ := pick_seq (txts l) l.length (by omega) (by rw [txts_len]; omega) z
  obtain ⟨s, hs, rfl⟩ := List.mem_map.mp h2
  exact ⟨s, h1, hs⟩
theorem raw_run_ex (ns : List Int) (k j most : Nat) (hk : k < 2 ^ 59) (hj : j < 1000) (hm : most ≤ 1000) (starts patches : List Str) (h1 : starts ≠ []) (h2 : patches ≠ []) (h3 : ∀ s ∈ starts, nameB s = true) (h4 : ∀ s ∈ patches, nameB s = true) :
    ∃ r : List Str, m__law_raw_run [.scr ns, .int (k : Int), .int (j : Int), .lst (txts starts), .lst (txts patches), .int (most : Int)] = .ok (.tup (txts r)) ∧ RunL r ∧ r.length ≤ most + 1 ∧ (∃ s ∈ starts, ∃ r', r = s :: r' ∧ ∀ t ∈ r', ∃ p ∈ patches, t = ("+" : Str) ++ p ∨ t = ("-" : Str) ++ p) := by
  have key : ∃ d, m__law_raw_run [.scr ns, .int (k : Int), .int (j : Int), .lst (txts starts), .lst (txts patches), .int (most : Int)] = .ok d ∧ ∃ r, d = .tup (txts r) ∧ RunL r ∧ r.length ≤ most + 1 ∧ (∃ s ∈ starts, ∃ r', r = s :: r' ∧ ∀ t ∈ r', ∃ p ∈ patches, t = ("+" : Str) ++ p ∨ t = ("-" : Str) ++ p) := by
    refine m_ex ?_
    unfold b__law_raw_run
    have d0 : m__law_draw [.scr ns, .int (k : Int), .int (j : Int)] = .ok (.int (dr ns k j)) := draw_nn ns k j (by omega) (by omega)
    have d1 : m__law_draw [.scr ns, .int (k : Int), .int ((j : Int) + 1)] = .ok (.int (dr ns k ((j : Int) + 1))) := (draw_all ns k _ (by omega) (by omega) (by omega) (by omega)).1
    obtain ⟨st, g0, hst⟩ := pick_txt starts h1 (dr ns k j)
    have p1 : (0 : Int) < (starts.length : Int) := by have := List.length_pos_iff.mpr h1; omega
    have p2 : (0 : Int) < (patches.length : Int) := by have := List.length_pos_iff.mpr h2; omega
    have t1 : ∀ d : D, tupD [d] = .ok (.tup [d]) := fun d => tup_ok (le_line (show 1 ≤ 1000000 by decide))
    have hmo : (0 : Int) < (most : Int) + 1 := by omega
    simp_arith [d0, txts_len, g0, mod_int p1, t1]
    have m0 := Int.emod_nonneg (dr ns k ((j : Int) + 1)) (show (most : Int) + 1 ≠ 0 by omega)
    have m1 := Int.emod_lt_of_pos (dr ns k ((j : Int) + 1)) hmo
    have hi : aI range1 (consA (op2 modD (aE m__law_draw (consA (getP 0) (consA (getP 1) (consA (op2 addD (getP 2) (cE (.int 1))) nilA)))) (op2 addD (getP 5) (cE (.int 1)))) nilA)
        [.sh (.scr ns), .sh (.int (k : Int)), .sh (.int (j : Int)), .sh (.lst (txts starts)), .sh (.lst (txts patches)), .sh (.int (most : Int)), .sh (.tup [.str st]), .no, .no] = .ok (rangeD 0 (dr ns k ((j : Int) + 1) % ((most : Int) + 1)).toNat) := by
      simp_arith [d1, mod_int hmo]
      exact range1_ok (by omega)
    generalize dr ns k ((j : Int) + 1) % ((most : Int) + 1) = n at m0 m1 hi
    obtain ⟨n, rfl⟩ := Int.eq_ofNat_of_zero_le m0
    rw [Int.toNat_natCast] at hi
    let I : Nat → Env → Prop := fun i env => ∃ (r : List Str) (x y : Sl), env = [.sh (.scr ns), .sh (.int (k : Int)), .sh (.int (j : Int)), .sh (.lst (txts starts)), .sh (.lst (txts patches)), .sh (.int (most : Int)), .sh (.tup (txts (st :: r))), x, y] ∧ r.length = i ∧ ∀ t ∈ r, stepB t = true ∧ ∃ p ∈ patches, t = ("+" : Str) ++ p ∨ t = ("-" : Str) ++ p
    refine Sat.rseq ?_
    with_reducible refine Sat.forS I (ds := rangeD 0 n) hi ?_ ?_ ?_
    · exact ⟨[], _, _, rfl, rfl, by simp⟩
    · rintro i d env hd ⟨r, x, y, rfl, hl, hall⟩
      obtain ⟨hi, rfl⟩ := rangeD_get hd
      refine ⟨_, rfl, ?_⟩
      have d2 : m__law_draw [.scr ns, .int (k : Int), .int ((j : Int) + 2 + (0 + (i : Int)))] = .ok (.int (dr ns k ((j : Int) + 2 + (0 + (i : Int))))) := (draw_all ns k _ (by omega) (by omega) (by omega) (by omega)).1
      generalize dr ns k ((j : Int) + 2 + (0 + (i : Int))) = z at d2
      obtain ⟨p, gp, hp⟩ := pick_txt patches h2 (z / 2)
      have q3 : lstD [D.str "+", .str "-"] = .ok (.lst [.str "+", .str "-"]) := lst_ok (le_line (show 2 ≤ 1000000 by decide))
      obtain ⟨g, x', gg, hg, hx, hgp⟩ : ∃ (g : Str) (x' : Nat), seqGet [D.str "+", D.str "-"] (z % 2) = .ok (.str g) ∧ g.cps.toList = [x'] ∧ (x' = 43 ∨ x' = 45) ∧ (g = "+" ∨ g = "-") := by
        have a0 := Int.emod_nonneg z (show (2 : Int) ≠ 0 by decide)
        have a1 := Int.emod_lt_of_pos z (show (0 : Int) < 2 by decide)
        have : z % 2 = 0 ∨ z % 2 = 1 := by omega
        rcases this with e | e
        · rw [e]; exact ⟨"+", 43, @seqGet_of _ 0 _ rfl, plus_tl, .inl rfl, .inl rfl⟩
        · rw [e]; exact ⟨"-", 45, @seqGet_of _ 1 _ rfl, minus_tl, .inr rfl, .inr rfl⟩
      obtain ⟨_, _, _, _, _, hpl⟩ := name_parts (h4 p hp)
      have gl : g.length = 1 := by rw [str_len, hg]; rfl
      have a1 : addD (.str g) (.str p) = .ok (.str (g ++ p)) := add_str (le_line (by omega))
      have a2 : addD (.tup (txts (st :: r))) (.tup [.str (g ++ p)]) = .ok (.tup (txts (st :: r) ++ [.str (g ++ p)])) := if_pos (by rw [txts_len, List.length_cons]; exact le_line (by simp only [List.length_cons, List.length_nil]; omega))
      simp_arith [Int.reduceLT, and_self, d2, q3, gg, txts_len, mod_int p2, gp, a1, t1, a2]
      refine ⟨r ++ [g ++ p], _, _, by rw [show st :: (r ++ [g ++ p]) = (st :: r) ++ [g ++ p] from rfl, txts_app]; rfl, by rw [List.length_append, hl]; rfl, fun t ht => ?_⟩
      rcases List.mem_append.mp ht with h | h
      · exact hall t h
      · rw [List.mem_singleton.mp h]
        exact ⟨step_of hg hx (h4 p hp), p, hp, by rcases hgp with rfl | rfl <;> simp⟩
    · rintro env ⟨r, x, y, rfl, hl, hall⟩
      rw [rangeD_len] at hl
      simp_arith []
      exact ⟨st :: r, rfl, ⟨st, r, rfl, h3 st hst, fun t ht => (hall t ht).1⟩, by rw [List.length_cons]; omega, st, hst, r, rfl, fun t ht => (hall t ht).2⟩
  obtain ⟨d, h, r, rfl, h'⟩ := key
  exact ⟨r, h, h'⟩

end
section
def factD (w : Str) (rs : List (List Str)) : D := .tup (.str w :: rs.map fun r => .tup (txts r))
theorem raw_fact_ex (ns : List Int) (k most : Nat) (hk : k < 2 ^ 58) (hm : most ≤ 100) (starts patches : List Str) (h1 : starts ≠ []) (h2 : patches ≠ []) (h3 : ∀ s ∈ starts, nameB s = true) (h4 : ∀ s ∈ patches, nameB s = true) :
    ∃ (w : Str) (rs : List (List Str)), m__law_raw_fact [.scr ns, .int (k : Int), .lst (txts starts), .lst (txts patches), .int (most : Int)] = .ok (factD w rs) ∧
      ((w = "goes" ∨ w = "fails") ∧ rs.length = 1 ∨ (w = "alike" ∨ w = "apart") ∧ rs.length = 2) ∧ (∀ r ∈ rs, RunL r ∧ r.length ≤ most + 1 ∧ ∃ s ∈ starts, ∃ r', r = s :: r') := by
  have key : ∃ d, m__law_raw_fact [.scr ns, .int (k : Int), .lst (txts starts), .lst (txts patches), .int (most : Int)] = .ok d ∧ ∃ (w : Str) (rs : List (List Str)), d = factD w rs ∧
      ((w = "goes" ∨ w = "fails") ∧ rs.length = 1 ∨ (w = "alike" ∨ w = "apart") ∧ rs.length = 2) ∧ (∀ r ∈ rs, RunL r ∧ r.length ≤ most + 1 ∧ ∃ s ∈ starts, ∃ r', r = s :: r') := by
    refine m_ex ?_
    unfold b__law_raw_fact
    have d0 : m__law_draw [.scr ns, .int (k : Int), .int 0] = .ok (.int (dr ns k 0)) := draw_nn ns k 0 (by omega) (by decide)
    obtain ⟨r1, e1, a1, b1, s1, hs1, q1, eq1, _⟩ := raw_run_ex ns k 1 most (by omega) (by decide) (by omega) starts patches h1 h2 h3 h4
    obtain ⟨r2, e2, a2, b2, s2, hs2, q2, eq2, _⟩ := raw_run_ex ns k (4 + most) most (by omega) (by omega) (by omega) starts patches h1 h2 h3 h4
    have e1' : m__law_raw_run [.scr ns, .int (k : Int), .int 1, .lst (txts starts), .lst (txts patches), .int (most : Int)] = .ok (.tup (txts r1)) := e1
    have e2' : m__law_raw_run [.scr ns, .int (k : Int), .int (4 + (most : Int)), .lst (txts starts), .lst (txts patches), .int (most : Int)] = .ok (.tup (txts r2)) := by
      rw [show ((4 + most : Nat) : Int) = 4 + (most : Int) by omega] at e2
      exact e2
    have l4 : ∀ a b c d : D, lstD [a, b, c, d] = .ok (.lst [a, b, c, d]) := fun a b c d => lst_ok (le_line (show 4 ≤ 1000000 by decide))
    have t2 : ∀ a b : D, tupD [a, b] = .ok (.tup [a, b]) := fun a b => tup_ok (le_line (show 2 ≤ 1000000 by decide))
    have t3 : ∀ a b c : D, tupD [a, b, c] = .ok (.tup [a, b, c]) := fun a b c => tup_ok (le_line (show 3 ≤ 1000000 by decide))
    have o1 : okS "goes" = true := by decide +kernel
    have o2 : okS "fails" = true := by decide +kernel
    have o3 : okS "alike" = true := by decide +kernel
    have o4 : okS "apart" = true := by decide +kernel
    have n1 : decide (("fails" : Str) = "goes") = false := by decide +kernel
    have n2 : decide (("alike" : Str) = "goes") = false := by decide +kernel
    have n3 : decide (("alike" : Str) = "fails") = false := by decide +kernel
    have n4 : decide (("apart" : Str) = "goes") = false := by decide +kernel
    have n5 : decide (("apart" : Str) = "fails") = false := by decide +kernel
    have y1 : decide (("goes" : Str) = "goes") = true := decide_eq_true rfl
    have y2 : decide (("fails" : Str) = "fails") = true := decide_eq_true rfl
    have m0 := Int.emod_nonneg (dr ns k 0) (show (4 : Int) ≠ 0 by decide)
    have m1 := Int.emod_lt_of_pos (dr ns k 0) (show (0 : Int) < 4 by decide)
    have hrs1 : ∀ r ∈ [r1], RunL r ∧ r.length ≤ most + 1 ∧ ∃ s ∈ starts, ∃ r', r = s :: r' := fun r hr => by
      rw [List.mem_singleton.mp hr]; exact ⟨a1, b1, s1, hs1, q1, eq1⟩
    have hrs2 : ∀ r ∈ [r1, r2], RunL r ∧ r.length ≤ most + 1 ∧ ∃ s ∈ starts, ∃ r', r = s :: r' := fun r hr => by
      rcases List.mem_cons.mp hr with rfl | hr
      · exact ⟨a1, b1, s1, hs1, q1, eq1⟩
      · rw [List.mem_singleton.mp hr]; exact ⟨a2, b2, s2, hs2, q2, eq2⟩
    rw [seq_eq]
    simp only [setS_eq, op2_eq, aE_eq, consA_eq, nilA_eq, env0, getP_eq, cE_eq, List.map_cons, List.map_nil, List.cons_append, List.nil_append, List.length_cons, List.length_nil, List.replicate, Nat.reduceSub, Nat.reduceAdd, gz_, gs_, rGet_ok, rC_ok, r1_ok, l4, d0, r2_ok, mod_int (show (0 : Int) < 4 by decide), get_lst]
    generalize dr ns k 0 % 4 = m at m0 m1
    have : m = 0 ∨ m = 1 ∨ m = 2 ∨ m = 3 := by omega
    rcases this with rfl | rfl | rfl | rfl
    · have g : seqGet [D.str "goes", .str "fails", .str "alike", .str "apart"] 0 = .ok (.str "goes") := @seqGet_of _ 0 _ rfl
      simp_arith [g, e1', eqO_str o1 o1, eqO_str o1 o2, y1, t2]
      exact ⟨"goes", [r1], rfl, .inl ⟨.inl rfl, rfl⟩, hrs1⟩
    · have g : seqGet [D.str "goes", .str "fails", .str "alike", .str "apart"] 1 = .ok (.str "fails") := @seqGet_of _ 1 _ rfl
      simp_arith [g, e1', eqO_str o2 o1, eqO_str o2 o2, n1, y2, t2]
      exact ⟨"fails", [r1], rfl, .inl ⟨.inr rfl, rfl⟩, hrs1⟩
    · have g : seqGet [D.str "goes", .str "fails", .str "alike", .str "apart"] 2 = .ok (.str "alike") := @seqGet_of _ 2 _ rfl
      simp_arith [g, e1', e2', eqO_str o3 o1, eqO_str o3 o2, n2, n3, t3]
      exact ⟨"alike", [r1, r2], rfl, .inr ⟨.inl rfl, rfl⟩, hrs2⟩
    · have g : seqGet [D.str "goes", .str "fails", .str "alike", .str "apart"] 3 = .ok (.str "apart") := @seqGet_of _ 3 _ rfl
      simp_arith [g, e1', e2', eqO_str o4 o1, eqO_str o4 o2, n4, n5, t3]
      exact ⟨"apart", [r1, r2], rfl, .inr ⟨.inr rfl, rfl⟩, hrs2⟩
  obtain ⟨d, h, w, rs, rfl, h'⟩ := key
  exact ⟨w, rs, h, h'⟩

end
section
theorem many_ex (ns : List Int) (j : Nat) (hj : j < 1000) : ∃ n : Nat, m__law_many [.scr ns, .int (j : Int)] = .ok (.int (n : Int)) ∧ 1 ≤ n ∧ n ≤ 6 := by
  have key : ∃ d, m__law_many [.scr ns, .int (j : Int)] = .ok d ∧ ∃ n : Nat, d = .int (n : Int) ∧ 1 ≤ n ∧ n ≤ 6 := by
    refine m_ex ?_
    unfold b__law_many
    have d0 : m__law_draw [.scr ns, .int 0, .int (j : Int)] = .ok (.int (dr ns 0 j)) := draw_nn ns 0 j (by decide) (by omega)
    obtain ⟨d, h1, h2⟩ := pick_seq [D.int 1, .int 2, .int 3, .int 1, .int 2, .int 3, .int 5, .int 6] 8 (by decide) (by decide) (dr ns 0 j)
    have l8 : lstD [D.int 1, .int 2, .int 3, .int 1, .int 2, .int 3, .int 5, .int 6] = .ok (.lst [D.int 1, .int 2, .int 3, .int 1, .int 2, .int 3, .int 5, .int 6]) := lst_ok (le_line (show 8 ≤ 1000000 by decide))
    simp_arith [Int.reduceLT, d0, l8, h1]
    simp only [List.mem_cons, List.not_mem_nil, or_false] at h2
    rcases h2 with rfl | rfl | rfl | rfl | rfl | rfl | rfl | rfl
    · exact ⟨1, rfl, by decide, by decide⟩
    · exact ⟨2, rfl, by decide, by decide⟩
    · exact ⟨3, rfl, by decide, by decide⟩
    · exact ⟨1, rfl, by decide, by decide⟩
    · exact ⟨2, rfl, by decide, by decide⟩
    · exact ⟨3, rfl, by decide, by decide⟩
    · exact ⟨5, rfl, by decide, by decide⟩
    · exact ⟨6, rfl, by decide, by decide⟩
  obtain ⟨d, h, n, rfl, h'⟩ := key
  exact ⟨n, h, h'⟩

end
section
theorem is_name_ok (s : Str) (hl : s.length ≤ sizeLine) : m_is_name [.str s] = .ok (.bl (nameB s)) := by
  refine m_ok ?_
  unfold b_is_name
  by_cases h1 : 1 ≤ s.length
  · obtain ⟨c, r, hc, hg⟩ := name_head h1 hl
    by_cases h2 : s.length ≤ 12
    · simp_arith [len_str hl, hg, notIn_c]
      have e1 : decide ((1 : Int) ≤ (s.length : Int)) = true := decide_eq_true (by omega)
      have e2 : decide ((s.length : Int) ≤ 12) = true := decide_eq_true (by omega)
      simp only [e1, e2, Bool.and_true, Bool.not_true, Bool.false_or]
      refine Sat.rseq (Sat.ifb (fun hb => ?_) (fun hb => ?_))
      · simp_arith []
        have : c ∉ lowL := fun hm => by
          rw [show decide (c ∈ ("abcdefghijklmnopqrstuvwxyz" : Str).cps.toList) = true from decide_eq_true hm] at hb
          exact absurd hb (by decide)
        unfold nameB namL
        rw [hc]
        simp [this]
      · simp_arith []
        have hm : c ∈ lowL := Decidable.byContradiction fun hm => by
          rw [show decide (c ∈ ("abcdefghijklmnopqrstuvwxyz" : Str).cps.toList) = false from decide_eq_false hm] at hb
          exact absurd hb (by decide)
        refine Sat.rseq (name_loop (s := s) (p := fun c => decide (c ∈ lowL) || decide (c ∈ digL)) (by simp_arith []) (fun env => ∃ x, env = [.sh (.str s), x]) ⟨_, rfl⟩ ?_ ?_ ?_)
        · rintro c' env ⟨x, rfl⟩
          refine ⟨[.sh (.str s), .sh (.str ⟨#[c']⟩)], ⟨_, rfl⟩, ?_⟩
          show rIf (rAnd (.ok (!decide (c' ∈ lowL))) (.ok (!decide (c' ∈ digL)))) (retS (cE (.bl false))) nxS _ = _
          cases decide (c' ∈ lowL) <;> cases decide (c' ∈ digL) <;> rfl
        · intro hall
          show D.bl false = _
          unfold nameB namL
          rw [hall, Bool.and_false]
        · rintro hall env ⟨x, rfl⟩
          simp_arith []
          unfold nameB namL
          rw [hall, hc]
          have e3 : decide (1 ≤ (c :: r).length) = true := by rw [← hc]; exact decide_eq_true h1
          have e4 : decide ((c :: r).length ≤ 12) = true := by rw [← hc]; exact decide_eq_true h2
          rw [e3, e4]
          simp [hm]
    · simp_arith [len_str hl, hg, notIn_c]
      have e2 : decide ((s.length : Int) ≤ 12) = false := decide_eq_false (by omega)
      simp only [e2, Bool.and_false, seq_eq, rSeq_nx, rSeq_rt, rSeq_bk, rSeq_ct, rSeq_xc, setS_eq, rSet_ok, ownS_eq, rOwn_ok, retS_eq, rRet_ok, retNS_eq, nxS_eq, bkS_eq, ctS_eq, dropS_eq, rDrop_ok, ifS_eq, rIf_t, rIf_f, asgS_eq, appS_eq, rApp_ok, giveS_eq, VL.give, gnG_eq, getP_eq, getB_eq, rGet_ok, rGetB_ok, rGetB_ow, cE_eq, op2_eq, r2_ok, aE_eq, aI_eq, iE_eq, tE_eq, someO_eq, notE_eq, isTE_eq, r1_ok, toB_ok, toI_ok, notD_ok, noO_eq, nilA_eq, consA_eq, rC_ok, andT_eq, orT_eq, notT_eq, rAnd_t, rAnd_f, rAnd_ok, rOr_t, rOr_f, rOr_ok, rNot_ok, andE_eq, orE_eq, rAndE_t, rAndE_f, rAndE_ok, rOrE_t, rOrE_f, rOrE_ok, ifE_eq, rIfE_ok, slE_eq, rSl_ok, chE_eq, rCh_le, rCh_lelt, rCh_ltlt, rCh_ltle, strE_eq, rStr_ok, immE_eq, rImm_ok, Sat_nx, Sat_rt, Sat_ct, Sat_bk, Sat_xc, thn_nx, thn_rt, thn_ct, thn_bk, thn_xc, lp_nx, lp_ct, lp_bk, lp_rt, lp_xc, add_int, sub_int, mod_int, fdiv_int, lt_int, le_int, gt_int, ge_int, isN_eq, notN_eq, isNon, len_lst, len_tup, len_scr, int_int, get_str, get_tup, get_lst, get_scr, items_str, items_lst, items_tup, lst_nil, sl_tup, sl_lst, isT_bl, eqO_int, eqO_bl, eqO_scr, neO_int, env0, List.map_cons, List.map_nil, List.cons_append, List.nil_append, List.length_cons, List.length_nil, List.replicate, gz_, gs_, sz_, ss_, if_true, if_false, reduceIte, Bool.not_true, Bool.not_false, Bool.false_eq_true, Nat.reduceAdd, Nat.reduceSub, Bool.false_or, Bool.or_false, Bool.true_or, Bool.or_true, Bool.and_true, Bool.true_and, Bool.and_false, Bool.false_and, wipeE, yesT, negE_eq, neg_int, retFS, outO, ofE_ok, str_str, ltX_int, ltX_str, inX_str, notInX_str, list_lst, list_tup, Sat_ro, thn_ro, lp_ro, raiseS_eq, rRaise_ok, raise0S_eq, isXE_eq, fldXE_eq, int_bl, rSet_xc, rDrop_xc, rRet_xc, r1_xc, rC_xc, r2_xc, rIf_xc, outI_nx, outI_rt, outI_nx0, outI_rt0, inE_s, inE_0, lst_k, tup_k, catl_k, Nat.reduceLeDiff, inWE_eq, inW_str, ixWE_eq, guardX_ok, getE_eq, putS_eq, rPut_ok]
      show D.bl false = _
      unfold nameB namL
      have : decide (s.cps.toList.length ≤ 12) = false := decide_eq_false h2
      rw [this]
      simp
  · simp_arith [len_str hl]
    have e1 : decide ((1 : Int) ≤ (s.length : Int)) = false := decide_eq_false (by omega)
    simp only [e1, Bool.false_and, seq_eq, rSeq_nx, rSeq_rt, rSeq_bk, rSeq_ct, rSeq_xc, setS_eq, rSet_ok, ownS_eq, rOwn_ok, retS_eq, rRet_ok, retNS_eq, nxS_eq, bkS_eq, ctS_eq, dropS_eq, rDrop_ok, ifS_eq, rIf_t, rIf_f, asgS_eq, appS_eq, rApp_ok, giveS_eq, VL.give, gnG_eq, getP_eq, getB_eq, rGet_ok, rGetB_ok, rGetB_ow, cE_eq, op2_eq, r2_ok, aE_eq, aI_eq, iE_eq, tE_eq, someO_eq, notE_eq, isTE_eq, r1_ok, toB_ok, toI_ok, notD_ok, noO_eq, nilA_eq, consA_eq, rC_ok, andT_eq, orT_eq, notT_eq, rAnd_t, rAnd_f, rAnd_ok, rOr_t, rOr_f, rOr_ok, rNot_ok, andE_eq, orE_eq, rAndE_t, rAndE_f, rAndE_ok, rOrE_t, rOrE_f, rOrE_ok, ifE_eq, rIfE_ok, slE_eq, rSl_ok, chE_eq, rCh_le, rCh_lelt, rCh_ltlt, rCh_ltle, strE_eq, rStr_ok, immE_eq, rImm_ok, Sat_nx, Sat_rt, Sat_ct, Sat_bk, Sat_xc, thn_nx, thn_rt, thn_ct, thn_bk, thn_xc, lp_nx, lp_ct, lp_bk, lp_rt, lp_xc, add_int, sub_int, mod_int, fdiv_int, lt_int, le_int, gt_int, ge_int, isN_eq, notN_eq, isNon, len_lst, len_tup, len_scr, int_int, get_str, get_tup, get_lst, get_scr, items_str, items_lst, items_tup, lst_nil, sl_tup, sl_lst, isT_bl, eqO_int, eqO_bl, eqO_scr, neO_int, env0, List.map_cons, List.map_nil, List.cons_append, List.nil_append, List.length_cons, List.length_nil, List.replicate, gz_, gs_, sz_, ss_, if_true, if_false, reduceIte, Bool.not_true, Bool.not_false, Bool.false_eq_true, Nat.reduceAdd, Nat.reduceSub, Bool.false_or, Bool.or_false, Bool.true_or, Bool.or_true, Bool.and_true, Bool.true_and, Bool.and_false, Bool.false_and, wipeE, yesT, negE_eq, neg_int, retFS, outO, ofE_ok, str_str, ltX_int, ltX_str, inX_str, notInX_str, list_lst, list_tup, Sat_ro, thn_ro, lp_ro, raiseS_eq, rRaise_ok, raise0S_eq, isXE_eq, fldXE_eq, int_bl, rSet_xc, rDrop_xc, rRet_xc, r1_xc, rC_xc, r2_xc, rIf_xc, outI_nx, outI_rt, outI_nx0, outI_rt0, inE_s, inE_0, lst_k, tup_k, catl_k, Nat.reduceLeDiff, inWE_eq, inW_str, ixWE_eq, guardX_ok, getE_eq, putS_eq, rPut_ok]
    show D.bl false = _
    unfold nameB namL
    have : decide (1 ≤ s.cps.toList.length) = false := decide_eq_false h1
    rw [this]
    simp

end
section
theorem law_is_name_ok (s : Str) (hl : s.length ≤ sizeLine) : m__law_is_name [.str s] = .ok (.bl (nameB s)) := by
  refine m_ok ?_
  unfold b__law_is_name
  by_cases h1 : 1 ≤ s.length
  · obtain ⟨c, r, hc, hg⟩ := name_head h1 hl
    have e1 : decide ((s.length : Int) < 1) = false := decide_eq_false (by omega)
    by_cases h2 : s.length ≤ 12
    · have e2 : decide (12 < (s.length : Int)) = false := decide_eq_false (by omega)
      by_cases hm : c ∈ lowL
      · simp_arith [len_str hl, hg, notIn_c, e1, e2, show decide (c ∈ ("abcdefghijklmnopqrstuvwxyz" : Str).cps.toList) = true from decide_eq_true hm]
        refine Sat.rseq (name_loop (s := s) (p := fun c => decide (c ∈ lowL) || decide (c ∈ digL)) (by simp_arith []) (fun env => ∃ x, env = [.sh (.str s), .sh (.str "abcdefghijklmnopqrstuvwxyz"), x]) ⟨_, rfl⟩ ?_ ?_ ?_)
        · rintro c' env ⟨x, rfl⟩
          refine ⟨[.sh (.str s), .sh (.str "abcdefghijklmnopqrstuvwxyz"), .sh (.str ⟨#[c']⟩)], ⟨_, rfl⟩, ?_⟩
          show rIf (rAnd (.ok (!decide (c' ∈ lowL))) (.ok (!decide (c' ∈ digL)))) (retS (cE (.bl false))) nxS _ = _
          cases decide (c' ∈ lowL) <;> cases decide (c' ∈ digL) <;> rfl
        · intro hall
          show D.bl false = _
          unfold nameB namL
          rw [hall, Bool.and_false]
        · rintro hall env ⟨x, rfl⟩
          simp_arith []
          unfold nameB namL
          rw [hall, hc]
          have e3 : decide (1 ≤ (c :: r).length) = true := by rw [← hc]; exact decide_eq_true h1
          have e4 : decide ((c :: r).length ≤ 12) = true := by rw [← hc]; exact decide_eq_true h2
          rw [e3, e4]
          simp [hm]
      · simp_arith [len_str hl, hg, notIn_c, e1, e2, show decide (c ∈ ("abcdefghijklmnopqrstuvwxyz" : Str).cps.toList) = false from decide_eq_false hm]
        unfold nameB namL
        rw [hc]
        simp [hm]
    · have e2 : decide (12 < (s.length : Int)) = true := decide_eq_true (by omega)
      simp_arith [len_str hl, hg, notIn_c, e1, e2]
      unfold nameB namL
      have : decide (s.cps.toList.length ≤ 12) = false := decide_eq_false h2
      rw [this]
      simp
  · have e1 : decide ((s.length : Int) < 1) = true := decide_eq_true (by omega)
    simp_arith [len_str hl, e1]
    unfold nameB namL
    have : decide (1 ≤ s.cps.toList.length) = false := decide_eq_false h1
    rw [this]
    simp

end
section
theorem take_one {l : List Nat} : l.take 1 = match l with | c :: _ => [c] | [] => [] := by cases l <;> simp
theorem in_tup' {d : D} {es : List D} (h1 : flatD d = true) (h2 : es.all flatD = true) : inD d (.tup es) = .ok (.bl (es.any fun z => eqD z d)) := by
  cases d <;> first | (cases h1; done) | exact if_pos ⟨h1, h2⟩
theorem sign_eq {s : Str} : ((D.str "+" :: [D.str "-"]).any fun z => eqD z (.str (cutS s none (some 1)))) = match s.cps.toList with | c :: _ => decide (c = 43) || decide (c = 45) | [] => false := by
  have e1 : (cutS s none (some 1)).cps.toList = s.cps.toList.take 1 := by rw [show (1 : Int) = ((1 : Nat) : Int) from rfl, cutS_to]
  rw [List.any_cons, List.any_cons, List.any_nil, eqD_str, eqD_str, Bool.or_false]
  have pl : ∀ t : Str, decide (("+" : Str) = t) = decide (t.cps.toList = [43]) := fun t => decide_eq_decide.mpr ⟨fun e => by rw [← e]; decide +kernel, fun e => str_ext (by rw [e]; decide +kernel)⟩
  have mi : ∀ t : Str, decide (("-" : Str) = t) = decide (t.cps.toList = [45]) := fun t => decide_eq_decide.mpr ⟨fun e => by rw [← e]; decide +kernel, fun e => str_ext (by rw [e]; decide +kernel)⟩
  rw [pl, mi, e1, take_one]
  cases s.cps.toList <;> simp
theorem is_step_ok (s : Str) (hl : s.length ≤ 1000000) : m_is_step [.str s] = .ok (.bl (stepB s)) := by
  refine m_ok ?_
  unfold b_is_step
  have h1 := len_cut s (some 1) none
  have n1 := is_name_ok (cutS s (some 1) none) (le_line (by omega))
  have t2 : tupD [D.str "+", .str "-"] = .ok (.tup [.str "+", .str "-"]) := tup_ok (le_line (show 2 ≤ 1000000 by decide))
  have e2 : (cutS s (some 1) none).cps.toList = s.cps.toList.drop 1 := by rw [show (1 : Int) = ((1 : Nat) : Int) from rfl, cutS_from]
  simp_arith [sl_str (le_line hl), t2, in_tup' (d := .str (cutS s none (some 1))) (es := [D.str "+", .str "-"]) rfl rfl, sign_eq, n1]
  show D.bl _ = D.bl _
  unfold stepB nameB
  rw [e2]
  cases s.cps.toList <;> simp
def runB : List Str → Bool
  | [] => false
  | s :: r => nameB s && r.all stepB
theorem check_run_gen (l : List Str) (hl : ∀ s ∈ l, s.length ≤ 1000000) : m_check_run [.tup (txts l)] = if runB l = true then .ok .non else .exc "BadRun" [(("run" : Str), D.tup (txts l))] := by
  have key : Sat { rt := fun d => runB l = true ∧ d = .non, nx := fun _ => runB l = true, xc := fun c fs _ => runB l = false ∧ c = "BadRun" ∧ fs = [(("run" : Str), D.tup (txts l))] } (b_check_run (env0 2 [.tup (txts l)])) := by
    unfold b_check_run
    cases l with
    | nil =>
      have h0 : decide (((txts []).length : Int) = 0) = true := rfl
      simp_arith [h0, List.zip_cons_cons, List.zip_nil_right, List.reverse_cons, List.reverse_nil]
      refine ⟨?_, ?_, ?_⟩ <;> first | trivial | rfl
    | cons s r =>
      have h0 : decide (((txts (s :: r)).length : Int) = 0) = false := decide_eq_false (by rw [txts_len, List.length_cons]; omega)
      have g0 : seqGet (txts (s :: r)) 0 = .ok (.str s) := @txts_get (s :: r) 0 s rfl
      have n1 := is_name_ok s (le_line (hl s (List.mem_cons_self ..)))
      simp only [seq_eq]
      refine Sat.rseq ?_
      simp only [ifS_eq, orT_eq, tE_eq, notT_eq, op2_eq, aE_eq, consA_eq, nilA_eq, cE_eq, env0, getP_eq, List.map_cons, List.map_nil, List.cons_append, List.nil_append, List.length_cons, List.length_nil, List.replicate, Nat.reduceSub, Nat.reduceAdd, gz_, gs_, rGet_ok, rC_ok, r1_ok, len_tup, r2_ok, eqO_int, toB_ok, h0, rOr_f, get_tup, g0, n1, rNot_ok]
      cases q : nameB s with
      | false =>
        simp_arith [List.zip_cons_cons, List.zip_nil_right, List.reverse_cons, List.reverse_nil]
        have e0 : runB (s :: r) = false := by show (nameB s && _) = false; rw [q]; rfl
        refine ⟨?_, ?_, ?_⟩ <;> first | trivial | exact e0 | rfl
      | true =>
        simp_arith []
        unfold VL.forS
        simp_arith []
        rw [show (1 : Int) = ((1 : Nat) : Int) from rfl, cutD_from]
        show Sat _ (forL _ _ ((txts (s :: r)).drop 1) _)
        have ed : (txts (s :: r)).drop 1 = txts r := rfl
        rw [ed]
        have go : ∀ (m : List Str) (env : Env), (∀ t ∈ m, t.length ≤ 1000000) → (∃ x, env = [.sh (.tup (txts (s :: r))), x]) → (m.all stepB = true → runB (s :: r) = true) → (m.all stepB = false → runB (s :: r) = false) →
            Sat { rt := fun d => runB (s :: r) = true ∧ d = .non, nx := fun _ => runB (s :: r) = true, xc := fun c fs _ => runB (s :: r) = false ∧ c = "BadRun" ∧ fs = [(("run" : Str), D.tup (txts (s :: r)))] } (forL (gnG 1) (ifS (notT (tE (aE m_is_step (consA (getP 1) nilA)))) (raiseS "BadRun" ["run"] (consA (getP 0) nilA)) nxS) (txts m) env) := by
          intro m
          induction m with
          | nil => exact fun env _ _ h1 _ => h1 rfl
          | cons t m ih =>
            rintro env hm ⟨x, rfl⟩ h1 h2
            show Sat _ (flowL _ _)
            have n2 := is_step_ok t (hm t (List.mem_cons_self ..))
            rw [List.all_cons] at h1 h2
            cases z : stepB t with
            | false =>
              simp_arith [n2, z, List.zip_cons_cons, List.zip_nil_right, List.reverse_cons, List.reverse_nil]
              have e0 := h2 (by rw [z]; rfl)
              refine ⟨?_, ?_, ?_⟩ <;> first | trivial | exact e0 | rfl
            | true =>
              rw [z, Bool.true_and] at h1 h2
              have := ih [.sh (.tup (txts (s :: r))), .sh (.str t)] (fun u hu => hm u (List.mem_cons_of_mem _ hu)) ⟨_, rfl⟩ h1 h2
              simp_arith [n2, z]
              exact this
        refine go r _ (fun t ht => hl t (List.mem_cons_of_mem _ ht)) ⟨_, rfl⟩ (fun h => ?_) (fun h => ?_)
        · show (nameB s && r.all stepB) = true
          rw [q, h]; rfl
        · show (nameB s && r.all stepB) = false
          rw [q, h]; rfl
  show defM 2 b_check_run _ = _
  unfold defM
  cases q : b_check_run (env0 2 [.tup (txts l)]) <;> rw [q] at key <;> first | exact key.elim | skip
  case rt d =>
    obtain ⟨k1, rfl⟩ := key
    rw [if_pos k1]; rfl
  case nx e =>
    have k : runB l = true := key
    rw [if_pos k]; rfl
  case xc c fs e =>
    obtain ⟨k1, rfl, rfl⟩ := key
    rw [if_neg (by rw [k1]; exact Bool.false_ne_true)]; rfl

end
section
theorem okS_cut {s : Str} {l u : Option Int} (h : okS s = true) : okS (cutS s l u) = true := by
  refine okS_of fun c hc => ?_
  have hc' := mem_cut hc
  unfold okS at h
  rw [Array.all_eq_true] at h
  obtain ⟨i, hi, e⟩ := Array.mem_iff_getElem.mp (Array.mem_toList_iff.mp hc')
  have := h i hi
  rw [e] at this
  exact of_decide_eq_true this
theorem inL_signs {s : Str} (h : okS s = true) : inD (.str s) (.lst [.str "+", .str "-"]) = .ok (.bl ((D.str "+" :: [D.str "-"]).any fun z => eqD z (.str s))) := by
  rw [inD_lst, if_pos ⟨cmp_str h, by decide +kernel⟩]
theorem law_is_good_run_ok (l : List Str) (hl : ∀ s ∈ l, s.length ≤ 1000000) (ho : ∀ s ∈ l, okS s = true) : m__law_is_good_run [.tup (txts l)] = .ok (.bl (runB l)) := by
  refine m_ok ?_
  unfold b__law_is_good_run
  cases l with
  | nil =>
    have h0 : decide (((txts []).length : Int) = 0) = true := rfl
    simp_arith [h0]
    rfl
  | cons s r =>
    have h0 : decide (((txts (s :: r)).length : Int) = 0) = false := decide_eq_false (by rw [txts_len, List.length_cons]; omega)
    have g0 : seqGet (txts (s :: r)) 0 = .ok (.str s) := @txts_get (s :: r) 0 s rfl
    have n1 := law_is_name_ok s (le_line (hl s (List.mem_cons_self ..)))
    cases q : nameB s with
    | false =>
      simp_arith [h0, g0, n1, q]
      show D.bl false = D.bl (nameB s && _)
      rw [q]; rfl
    | true =>
      simp_arith [h0, g0, n1, q]
      unfold VL.forS
      simp_arith []
      rw [show (1 : Int) = ((1 : Nat) : Int) from rfl, cutD_from]
      show Sat _ (rSeq (forL _ _ ((txts (s :: r)).drop 1) _) _)
      have ed : (txts (s :: r)).drop 1 = txts r := rfl
      rw [ed]
      have er : runB (s :: r) = r.all stepB := by show (nameB s && r.all stepB) = _; rw [q, Bool.true_and]
      rw [er]
      refine Sat.rseq ?_
      have go : ∀ (m : List Str) (env : Env), (∀ t ∈ m, t.length ≤ 1000000) → (∀ t ∈ m, okS t = true) → (∃ x, env = [.sh (.tup (txts (s :: r))), x]) → (m.all stepB = r.all stepB ∨ (m.all stepB = true ∧ r.all stepB = true)) →
          Sat { rt := fun d => d = D.bl (r.all stepB), nx := fun e => r.all stepB = true } (forL (gnG 1) (ifS (orT (tE (op2 notInD (slE (getP 1) noO (someO (cE (.int 1)))) (aE lstD (consA (cE (.str "+")) (consA (cE (.str "-")) nilA))))) (notT (tE (aE m__law_is_name (consA (slE (getP 1) (someO (cE (.int 1))) noO) nilA))))) (retS (cE (.bl false))) nxS) (txts m) env) := by
        intro m
        induction m with
        | nil =>
          intro env _ _ _ h
          rcases h with h | h
          · exact h.symm
          · exact h.2
        | cons t m ih =>
          rintro env hm hok ⟨x, rfl⟩ h
          show Sat _ (flowL _ _)
          have ht := hm t (List.mem_cons_self ..)
          have hk := hok t (List.mem_cons_self ..)
          have h1 := len_cut t (some 1) none
          have n2 := law_is_name_ok (cutS t (some 1) none) (le_line (by omega))
          have l2 : lstD [D.str "+", .str "-"] = .ok (.lst [.str "+", .str "-"]) := lst_ok (le_line (show 2 ≤ 1000000 by decide))
          have e2 : (cutS t (some 1) none).cps.toList = t.cps.toList.drop 1 := by rw [show (1 : Int) = ((1 : Nat) : Int) from rfl, cutS_from]
          have ni : notInD (.str (cutS t none (some 1))) (.lst [.str "+", .str "-"]) = .ok (.bl (!(match t.cps.toList with | c :: _ => decide (c = 43) || decide (c = 45) | [] => false))) := by
            unfold notInD
            rw [inL_signs (okS_cut hk), sign_eq]; rfl
          have st : stepB t = ((match t.cps.toList with | c :: _ => decide (c = 43) || decide (c = 45) | [] => false) && nameB (cutS t (some 1) none)) := by
            unfold stepB nameB
            rw [e2]
            cases t.cps.toList <;> simp
          have hcase : stepB t = false → m.all stepB = m.all stepB → Sat { rt := fun d => d = D.bl (r.all stepB), nx := fun e => r.all stepB = true } (SRes.rt (D.bl false)) := fun z _ => by
            show D.bl false = D.bl _
            rw [List.all_cons, z, Bool.false_and] at h
            rcases h with h | h
            · rw [← h]
            · exact absurd h.1 Bool.false_ne_true
          generalize hs1 : (match t.cps.toList with | c :: _ => decide (c = 43) || decide (c = 45) | [] => false) = s1 at ni st
          cases s1 with
          | false =>
            simp_arith [sl_str (le_line ht), l2, ni, n2, Bool.not_false]
            have := hcase (by rw [st]; rfl) rfl
            exact this
          | true =>
            rw [Bool.true_and] at st
            cases z : nameB (cutS t (some 1) none) with
            | false =>
              simp_arith [sl_str (le_line ht), l2, ni, n2, z, Bool.not_false, Bool.not_true]
              have := hcase (by rw [st, z]) rfl
              exact this
            | true =>
              have := ih [.sh (.tup (txts (s :: r))), .sh (.str t)] (fun u hu => hm u (List.mem_cons_of_mem _ hu)) (fun u hu => hok u (List.mem_cons_of_mem _ hu)) ⟨_, rfl⟩ (by
                rw [List.all_cons, st, z, Bool.true_and] at h
                exact h)
              simp_arith [sl_str (le_line ht), l2, ni, n2, z, Bool.not_true]
              exact this
      refine (go r _ (fun t ht => hl t (List.mem_cons_of_mem _ ht)) (fun t ht => ho t (List.mem_cons_of_mem _ ht)) ⟨_, rfl⟩ (.inl rfl)).mono (fun e h => ?_) (fun _ h => h) (fun _ h => h) (fun _ h => h) (fun _ _ _ h => h) (fun _ h => h)
      show Sat { rt := fun x => x = D.bl (r.all stepB) } (retS (cE (.bl true)) e)
      simp_arith []
      have h' : r.all stepB = true := h
      rw [h']

end
section
theorem okS_app {s t : Str} (h1 : okS s = true) (h2 : okS t = true) : okS (s ++ t) = true := by
  refine okS_of fun c hc => ?_
  rw [str_app] at hc
  have g : ∀ {s : Str}, okS s = true → ∀ c ∈ s.cps.toList, c < 0x110000 := fun {s} h c hc => by
    unfold okS at h
    rw [Array.all_eq_true] at h
    obtain ⟨i, hi, e⟩ := Array.mem_iff_getElem.mp (Array.mem_toList_iff.mp hc)
    have := h i hi
    rw [e] at this
    exact of_decide_eq_true this
  rcases List.mem_append.mp hc with h | h
  · exact g h1 c h
  · exact g h2 c h
theorem okS_one {c : Nat} (h : c < 0x110000) : okS ⟨#[c]⟩ = true := okS_of fun d hd => by
  have : d = c := by simpa using hd
  rw [this]; exact h
end
section
abbrev Fx := Option (Str × List (List Str))
def fxD : Fx → D
  | none => .tup []
  | some (w, rs) => factD w rs
def wTbl : List (Str × Int) := [("goes", 1), ("fails", 1), ("alike", 2), ("apart", 2)]
def goodF : Fx → Bool
  | none => false
  | some (w, rs) => match wTbl.lookup w with
    | some i => decide ((rs.length : Int) = i) && rs.all runB
    | none => false
theorem fact_len {w : Str} {rs : List (List Str)} : ((D.str w :: rs.map fun r => .tup (txts r)).length : Int) = (rs.length : Int) + 1 := by
  rw [List.length_cons, List.length_map]; rfl
theorem fact_cut {d : D} {ds : List D} : cutD (d :: ds) (some 1) none = ds := by
  rw [show (1 : Int) = ((1 : Nat) : Int) from rfl, cutD_from]
  rfl
theorem words4 {w : Str} (h : wTbl.lookup w ≠ none) : w = "goes" ∨ w = "fails" ∨ w = "alike" ∨ w = "apart" := by
  by_cases c : w ∈ wTbl.map (·.1)
  · simpa [wTbl] using c
  · exact absurd (lookup_no.mpr c) h

end
section
theorem notIn_words {w : Str} (h : okS w = true) : notInD (.str w) (.lst [.str "goes", .str "fails", .str "alike", .str "apart"]) = .ok (.bl (wTbl.lookup w).isNone) := by
  obtain ⟨b, _, e, hb⟩ := inL_tree (n := 1) (d := .str w) (es := [.str "goes", .str "fails", .str "alike", .str "apart"]) h (by decide +kernel) (by decide)
  rw [e]
  have : b = true ↔ wTbl.lookup w ≠ none := by
    rw [hb, Ne, lookup_no, Classical.not_not]
    simp [wTbl]
  cases q : wTbl.lookup w with
  | none =>
    rw [q] at this
    cases b with
    | true => exact absurd rfl (this.mp rfl)
    | false => rfl
  | some i =>
    rw [q] at this
    rw [this.mpr (by simp)]
    rfl
theorem good_loop (d : D) (a : Sl) : ∀ (rs : List (List Str)) (x : Sl), (∀ r ∈ rs, ∀ s ∈ r, okS s = true ∧ s.length ≤ 1000000) →
    (rs.all runB = true → ∃ y, forL (gnG 2) (ifS (notT (tE (aE m__law_is_good_run (consA (getP 2) nilA)))) (retS (cE (.bl false))) nxS) (rs.map fun r => .tup (txts r)) [.sh d, a, x] = .nx [.sh d, a, y]) ∧
    (rs.all runB = false → forL (gnG 2) (ifS (notT (tE (aE m__law_is_good_run (consA (getP 2) nilA)))) (retS (cE (.bl false))) nxS) (rs.map fun r => .tup (txts r)) [.sh d, a, x] = .rt (.bl false))
  | [], x, _ => ⟨fun _ => ⟨x, rfl⟩, fun h => by cases h⟩
  | r :: rs, x, h => by
    have hc := law_is_good_run_ok r (fun s hs => (h r (List.mem_cons_self ..) s hs).2) (fun s hs => (h r (List.mem_cons_self ..) s hs).1)
    obtain ⟨i1, i2⟩ := good_loop d a rs (.sh (.tup (txts r))) fun r' hr => h r' (List.mem_cons_of_mem _ hr)
    have e : forL (gnG 2) (ifS (notT (tE (aE m__law_is_good_run (consA (getP 2) nilA)))) (retS (cE (.bl false))) nxS) ((r :: rs).map fun r => .tup (txts r)) [.sh d, a, x] = flowL ((ifS (notT (tE (aE m__law_is_good_run (consA (getP 2) nilA)))) (retS (cE (.bl false))) nxS) [.sh d, a, .sh (.tup (txts r))]) (forL (gnG 2) (ifS (notT (tE (aE m__law_is_good_run (consA (getP 2) nilA)))) (retS (cE (.bl false))) nxS) (rs.map fun r => .tup (txts r))) := rfl
    rw [e, List.all_cons]
    cases q : runB r with
    | true =>
      rw [q] at hc
      have e2 : (ifS (notT (tE (aE m__law_is_good_run (consA (getP 2) nilA)))) (retS (cE (.bl false))) nxS) [.sh d, a, .sh (.tup (txts r))] = .nx [.sh d, a, .sh (.tup (txts r))] := by simp_arith [hc]
      rw [e2, Bool.true_and]
      exact ⟨i1, i2⟩
    | false =>
      rw [q] at hc
      have e2 : (ifS (notT (tE (aE m__law_is_good_run (consA (getP 2) nilA)))) (retS (cE (.bl false))) nxS) [.sh d, a, .sh (.tup (txts r))] = .rt (.bl false) := by simp_arith [hc]
      rw [e2, Bool.false_and]
      exact ⟨fun h => (Bool.false_ne_true h).elim, fun _ => rfl⟩
theorem law_is_good_fact_w (f : Fx) (h : ∀ w rs, f = some (w, rs) → okS w = true ∧ ∀ r ∈ rs, ∀ s ∈ r, okS s = true ∧ s.length ≤ 1000000) : m__law_is_good_fact [fxD f] = .ok (.bl (goodF f)) := by
  refine m_ok ?_
  unfold b__law_is_good_fact
  cases f with
  | none =>
    have h0 : decide (((0 : Nat) : Int) = 0) = true := rfl
    simp only [fxD, seq_eq, rSeq_nx, rSeq_rt, rSeq_bk, rSeq_ct, rSeq_xc, setS_eq, rSet_ok, ownS_eq, rOwn_ok, retS_eq, rRet_ok, retNS_eq, nxS_eq, bkS_eq, ctS_eq, dropS_eq, rDrop_ok, ifS_eq, rIf_t, rIf_f, asgS_eq, appS_eq, rApp_ok, giveS_eq, VL.give, gnG_eq, getP_eq, getB_eq, rGet_ok, rGetB_ok, rGetB_ow, cE_eq, op2_eq, r2_ok, aE_eq, aI_eq, iE_eq, tE_eq, someO_eq, notE_eq, isTE_eq, r1_ok, toB_ok, toI_ok, notD_ok, noO_eq, nilA_eq, consA_eq, rC_ok, andT_eq, orT_eq, notT_eq, rAnd_t, rAnd_f, rAnd_ok, rOr_t, rOr_f, rOr_ok, rNot_ok, andE_eq, orE_eq, rAndE_t, rAndE_f, rAndE_ok, rOrE_t, rOrE_f, rOrE_ok, ifE_eq, rIfE_ok, slE_eq, rSl_ok, chE_eq, rCh_le, rCh_lelt, rCh_ltlt, rCh_ltle, strE_eq, rStr_ok, immE_eq, rImm_ok, Sat_nx, Sat_rt, Sat_ct, Sat_bk, Sat_xc, thn_nx, thn_rt, thn_ct, thn_bk, thn_xc, lp_nx, lp_ct, lp_bk, lp_rt, lp_xc, add_int, sub_int, mod_int, fdiv_int, lt_int, le_int, gt_int, ge_int, isN_eq, notN_eq, isNon, len_lst, len_tup, len_scr, int_int, get_str, get_tup, get_lst, get_scr, items_str, items_lst, items_tup, lst_nil, sl_tup, sl_lst, isT_bl, eqO_int, eqO_bl, eqO_scr, neO_int, env0, List.map_cons, List.map_nil, List.cons_append, List.nil_append, List.length_cons, List.length_nil, List.replicate, gz_, gs_, sz_, ss_, if_true, if_false, reduceIte, Bool.not_true, Bool.not_false, Bool.false_eq_true, Nat.reduceAdd, Nat.reduceSub, Bool.false_or, Bool.or_false, Bool.true_or, Bool.or_true, Bool.and_true, Bool.true_and, Bool.and_false, Bool.false_and, wipeE, yesT, negE_eq, neg_int, retFS, outO, ofE_ok, str_str, ltX_int, ltX_str, inX_str, notInX_str, list_lst, list_tup, Sat_ro, thn_ro, lp_ro, raiseS_eq, rRaise_ok, raise0S_eq, isXE_eq, fldXE_eq, int_bl, rSet_xc, rDrop_xc, rRet_xc, r1_xc, rC_xc, r2_xc, rIf_xc, outI_nx, outI_rt, outI_nx0, outI_rt0, inE_s, inE_0, lst_k, tup_k, catl_k, Nat.reduceLeDiff, inWE_eq, inW_str, ixWE_eq, guardX_ok, getE_eq, putS_eq, rPut_ok, h0]
    rfl
  | some p =>
    obtain ⟨w, rs⟩ := p
    obtain ⟨hw, hr⟩ := h w rs rfl
    have g0 : seqGet (D.str w :: rs.map fun r => .tup (txts r)) 0 = .ok (.str w) := @seqGet_of _ 0 _ rfl
    have hz : decide ((rs.length : Int) + 1 = 0) = false := decide_eq_false (by omega)
    have e0 : fxD (some (w, rs)) = .tup (D.str w :: rs.map fun r => .tup (txts r)) := rfl
    have hl := @fact_len w rs
    have hcut := @fact_cut (.str w) (rs.map fun r => .tup (txts r))
    have eg : goodF (some (w, rs)) = match wTbl.lookup w with
      | some i => decide ((rs.length : Int) = i) && rs.all runB
      | none => false := rfl
    have lp := fun a => good_loop (fxD (some (w, rs))) a rs .no hr
    rw [e0] at lp ⊢
    rw [eg]
    generalize hR : (rs.map fun r => D.tup (txts r)) = R at *
    generalize hds : D.str w :: R = ds at *
    have l4 : ∀ a b c d : D, lstD [a, b, c, d] = .ok (.lst [a, b, c, d]) := fun a b c d => lst_ok (le_line (show 4 ≤ 1000000 by decide))
    have o1 : okS "goes" = true := by decide +kernel
    have o2 : okS "fails" = true := by decide +kernel
    have nw := notIn_words hw
    have fin : ∀ i : Int, Sat { rt := fun x => x = D.bl (decide ((rs.length : Int) = i) && rs.all runB) } (rSeq (rIf (Res.ok (!decide ((rs.length : Int) + 1 = i + 1))) (retS (cE (.bl false))) nxS [.sh (.tup ds), .sh (.int i), .no]) (seqS (VL.forS (gnG 2) (iE (slE (getP 0) (someO (cE (.int 1))) noO)) (ifS (notT (tE (aE m__law_is_good_run (consA (getP 2) nilA)))) (retS (cE (.bl false))) nxS)) (retS (cE (.bl true))))) := fun i => by
      by_cases hi : (rs.length : Int) = i
      · have e1 : decide ((rs.length : Int) + 1 = i + 1) = true := decide_eq_true (by omega)
        simp_arith [e1, decide_eq_true hi]
        unfold VL.forS
        simp_arith [hcut]
        obtain ⟨l1, l2⟩ := lp (.sh (.int i))
        refine Sat.rseq ?_
        show Sat _ (forL _ _ R _)
        cases z : rs.all runB with
        | true =>
          obtain ⟨y, e⟩ := l1 z
          rw [e]
          simp_arith []
        | false =>
          have e := l2 z
          rw [e]
          simp_arith []
      · have e1 : decide ((rs.length : Int) + 1 = i + 1) = false := decide_eq_false (by omega)
        simp_arith [e1, decide_eq_false hi]
    cases q : wTbl.lookup w with
    | none =>
      rw [q] at nw
      simp_arith [hl, hz, g0, l4, nw, Option.isNone_none]
    | some i =>
      rw [q] at nw
      simp_arith [hl, hz, g0, l4, nw, Option.isNone_some, eqO_str hw o1, eqO_str hw o2, neO_int]
      rcases words4 (w := w) (by rw [q]; simp) with rfl | rfl | rfl | rfl
      · have : (some 1 : Option Int) = some i := q
        cases this
        simp_arith [decide_true, hl]
        exact fin 1
      · have : (some 1 : Option Int) = some i := q
        cases this
        have n1 : decide (("fails" : Str) = "goes") = false := by decide +kernel
        simp_arith [decide_true, n1, hl]
        exact fin 1
      · have : (some 2 : Option Int) = some i := q
        cases this
        have n1 : decide (("alike" : Str) = "goes") = false := by decide +kernel
        have n2 : decide (("alike" : Str) = "fails") = false := by decide +kernel
        simp_arith [n1, n2, hl]
        exact fin 2
      · have : (some 2 : Option Int) = some i := q
        cases this
        have n1 : decide (("apart" : Str) = "goes") = false := by decide +kernel
        have n2 : decide (("apart" : Str) = "fails") = false := by decide +kernel
        simp_arith [n1, n2, hl]
        exact fin 2
end
section
theorem low_dig {c : Nat} (h : c ∈ lowL ∨ c ∈ digL) : c ≠ 32 ∧ c ≠ 61 ∧ c ≠ 10 ∧ c ≠ 35 := by
  have h1 : ∀ c ∈ lowL, c ≠ 32 ∧ c ≠ 61 ∧ c ≠ 10 ∧ c ≠ 35 := by decide +kernel
  have h2 : ∀ c ∈ digL, c ≠ 32 ∧ c ≠ 61 ∧ c ≠ 10 ∧ c ≠ 35 := by decide +kernel
  exact h.elim (h1 c) (h2 c)
theorem namL_mem {cs : List Nat} (h : namL cs = true) : cs.length ≤ 12 ∧ cs ≠ [] ∧ ∀ c ∈ cs, c ∈ lowL ∨ c ∈ digL := by
  unfold namL at h
  rw [Bool.and_eq_true, Bool.and_eq_true, Bool.and_eq_true] at h
  obtain ⟨⟨⟨h1, h2⟩, _⟩, h4⟩ := h
  refine ⟨of_decide_eq_true h2, fun e => ?_, fun c hc => ?_⟩
  · rw [e] at h1; exact absurd h1 (by decide)
  · have := List.all_eq_true.mp h4 c hc
    rw [Bool.or_eq_true] at this
    exact this.imp of_decide_eq_true of_decide_eq_true
structure ItS (s : Str) : Prop where
  len : s.length ≤ 13
  no : ∀ c ∈ TL.tl s, c ≠ 32 ∧ c ≠ 61 ∧ c ≠ 10 ∧ c ≠ 35
  ok : okS s = true
  ne : TL.tl s ≠ []
theorem nameB_it {s : Str} (h : nameB s = true) : ItS s := by
  obtain ⟨h1, h2, h3⟩ := namL_mem h
  refine ⟨by rw [str_len]; omega, fun c hc => low_dig (h3 c hc), name_ok h, h2⟩
theorem stepB_it {s : Str} (h : stepB s = true) : ItS s := by
  obtain ⟨c, r, e, hc, hn, hl, _⟩ := step_parts h
  obtain ⟨h1, h2, h3⟩ := namL_mem hn
  have et : TL.tl s = c :: r := e
  refine ⟨hl, fun z hz => ?_, step_ok h, by rw [et]; simp⟩
  rw [et] at hz
  rcases List.mem_cons.mp hz with rfl | hz
  · rcases hc with rfl | rfl <;> decide
  · exact low_dig (h3 z hz)
theorem RunL.it {l : List Str} (h : RunL l) : ∀ s ∈ l, ItS s := by
  obtain ⟨s, r, rfl, h1, h2⟩ := h.ex
  intro t ht
  rcases List.mem_cons.mp ht with rfl | ht
  · exact nameB_it h1
  · exact stepB_it (h2 t ht)
def spS : Str := " "
theorem join_cons (y a : Str) (b : Str) (r : List Str) : Txt.join y (a :: b :: r) = a ++ y ++ Txt.join y (b :: r) := by
  rw [TL.join_eq, TL.join_eq]; rfl
theorem join_one (y a : Str) : Txt.join y [a] = a := by
  rw [TL.join_eq]; rfl
theorem sum_len {l : List Str} {k : Nat} (h : ∀ s ∈ l, s.length ≤ k) : (l.map (·.length)).sum ≤ l.length * k := by
  induction l with
  | nil => simp
  | cons a l ih =>
    have h1 := h a (List.mem_cons_self ..)
    have h2 := ih fun s hs => h s (List.mem_cons_of_mem _ hs)
    rw [List.map_cons, List.sum_cons, List.length_cons, Nat.succ_mul]
    omega
theorem join_len (y : Str) {l : List Str} {k : Nat} (h : ∀ s ∈ l, s.length ≤ k) : (Txt.join y l).length ≤ l.length * k + l.length * y.length := by
  rw [TL.join_eq]
  exact Nat.le_trans (PySem.StrLaws.join_length_le y l) (Nat.add_le_add_right (sum_len h) _)
theorem join_ok (y : Str) (hy : okS y = true) : ∀ {l : List Str}, (∀ s ∈ l, okS s = true) → okS (Txt.join y l) = true
  | [], _ => by rw [TL.join_eq]; show okS Str.empty = true; decide +kernel
  | [a], h => by rw [join_one]; exact h a (List.mem_cons_self ..)
  | a :: b :: r, h => by
    rw [join_cons]
    exact okS_app (okS_app (h a (List.mem_cons_self ..)) hy) (join_ok y hy fun s hs => h s (List.mem_cons_of_mem _ hs))
theorem strsOf_txts : ∀ l : List Str, strsOf (txts l) = some l
  | [] => rfl
  | s :: l => by
    show (strsOf (txts l)).map (fun l => s :: l) = _
    rw [strsOf_txts l]; rfl
theorem joinS_ok {a : Str} {l : List Str} {k : Nat} (h : ∀ s ∈ l, s.length ≤ k) (hz : l.length * k + l.length * a.length ≤ 16777216) : joinS a (txts l) = .ok (.str (Txt.join a l)) := by
  unfold joinS
  rw [strsOf_txts]
  exact if_pos (by have := sum_len h; omega)
end
section
theorem law_is_run_txts (l : List Str) (hl : l ≠ []) : m__law_is_run [.tup (txts l)] = .ok (.bl true) := by
  refine m_ok ?_
  unfold b__law_is_run
  have it : isT "tuple" (.tup (txts l)) = .ok (.bl true) := rfl
  have h0 : decide (((txts l).length : Int) = 0) = false := decide_eq_false (by
    have := List.length_pos_iff.mpr hl
    rw [txts_len]; omega)
  simp_arith [it, h0]
  refine Sat.rseq (Sat.forS0 (fun env => ∃ x, env = [.sh (.tup (txts l)), x]) (ds := txts l) rfl ⟨_, rfl⟩ ?_ ?_)
  · rintro d hd env ⟨x, rfl⟩
    obtain ⟨s, _, rfl⟩ := List.mem_map.mp hd
    refine ⟨_, rfl, ?_⟩
    have is : isT "str" (.str s) = .ok (.bl true) := rfl
    simp_arith [is]
    exact ⟨_, rfl⟩
  · rintro env ⟨x, rfl⟩
    simp_arith []

end
section
abbrev jn (l : List Str) : Str := Txt.join spS l
end
section
def oneK (w : Str) : Prop := w = "goes" ∨ w = "fails"
def twoK (w : Str) : Prop := w = "alike" ∨ w = "apart"
theorem flat_txts : ∀ l : List Str, (txts l).all flatD = true
  | [] => rfl
  | _ :: l => by
    show (true && (txts l).all flatD) = true
    rw [flat_txts l]; rfl
theorem count_txts (z : Str) : ∀ l : List Str, ((txts l).countP fun d => eqD d (.str z)) = l.count z
  | [] => rfl
  | s :: l => by
    show (D.str s :: txts l).countP _ = _
    rw [List.countP_cons, count_txts z l, List.count_cons, eqD_str]
    by_cases h : s = z <;> simp [h]
theorem find_txts (z : Str) : ∀ l m : List Str, z ∉ l → ((txts (l ++ z :: m)).findIdx? fun d => eqD d (.str z)) = some l.length
  | [], m, _ => by
    show (D.str z :: txts m).findIdx? _ = _
    rw [List.findIdx?_cons, eqD_str, decide_eq_true rfl, if_pos rfl]; rfl
  | s :: l, m, h => by
    show (D.str s :: txts (l ++ z :: m)).findIdx? _ = _
    have hs : s ≠ z := fun e => h (by rw [e]; exact List.mem_cons_self ..)
    rw [List.findIdx?_cons, eqD_str, decide_eq_false hs, if_neg Bool.false_ne_true, find_txts z l m fun hm => h (List.mem_cons_of_mem _ hm)]
    rfl
theorem casOne {w : Str} (hw : oneK w) : ∀ (χ : Env → SRes) (r : List CaD) (env : Env), casS w ((some ["goes", "fails"], χ) :: r) env = χ env := fun χ r env => by
  show (if (["goes", "fails"] : List Str).contains w = true then χ env else casS w r env) = _
  rw [if_pos (by rcases hw with rfl | rfl <;> decide +kernel)]
theorem casTwo {w : Str} (hw : twoK w) : ∀ (χ χ2 : Env → SRes) (r : List CaD) (env : Env), casS w ((some ["goes", "fails"], χ2) :: (some ["alike", "apart"], χ) :: r) env = χ env := fun χ χ2 r env => by
  show (if (["goes", "fails"] : List Str).contains w = true then χ2 env else if (["alike", "apart"] : List Str).contains w = true then χ env else casS w r env) = _
  rw [if_neg (by rcases hw with rfl | rfl <;> decide +kernel), if_pos (by rcases hw with rfl | rfl <;> decide +kernel)]
def rMat (r : Res D) (cs : List CaD) (env : Env) : SRes := ofE r env fun d => match d with
  | .str z => casS z cs env
  | _ => .bad
theorem matS_eq {φ : Env → Res D} {cs : List CaD} {env : Env} : matS φ cs env = rMat (φ env) cs env := rfl
theorem rMat_ok {z : Str} {cs : List CaD} {env : Env} : rMat (.ok (.str z)) cs env = casS z cs env := rfl
theorem lmE_eq {f : List D → D → Res D} {φa φb : Env → Res D} {env : Env} : lmE f φa φb env = (φa env).bind fun d => match d with
  | .lst ds => (φb env).bind (f ds)
  | _ => .bad := rfl
theorem law_is_fact_ok {w : Str} {rs : List (List Str)} (hn : 1 ≤ rs.length) (hr : ∀ r ∈ rs, r ≠ []) : m__law_is_fact [factD w rs] = .ok (.bl true) := by
  refine m_ok ?_
  unfold b__law_is_fact
  have it : isT "tuple" (factD w rs) = .ok (.bl true) := rfl
  have is : isT "str" (.str w) = .ok (.bl true) := rfl
  have hl : lenF [factD w rs] = .ok (.int ((rs.length : Int) + 1)) := by
    show lenF [D.tup (D.str w :: rs.map fun r => .tup (txts r))] = _
    rw [len_tup, fact_len]
  have g0 : getD (factD w rs) (.int 0) = .ok (.str w) := by
    show getD (D.tup (D.str w :: rs.map fun r => .tup (txts r))) (.int 0) = _
    rw [get_tup]
    exact @seqGet_of _ 0 _ rfl
  have hlt : decide ((rs.length : Int) + 1 < 2) = false := decide_eq_false (by omega)
  have hsl : sliceD (factD w rs) (some 1) none = .ok (.tup (rs.map fun r => .tup (txts r))) := by
    show sliceD (D.tup (D.str w :: rs.map fun r => .tup (txts r))) (some 1) none = _
    rw [sl_tup, fact_cut]
  rw [seq_eq]
  simp_arith [it, is, hl, g0, hlt]
  refine Sat.rseq (Sat.forS0 (fun env => ∃ x, env = [.sh (factD w rs), x]) (ds := rs.map fun r => .tup (txts r)) ?_ ⟨_, rfl⟩ ?_ ?_)
  · simp_arith [hsl]
  · rintro d hd env ⟨x, rfl⟩
    obtain ⟨r, hm, rfl⟩ := List.mem_map.mp hd
    refine ⟨_, rfl, ?_⟩
    have is := law_is_run_txts r (hr r hm)
    simp_arith [is]
    exact ⟨_, rfl⟩
  · rintro env ⟨x, rfl⟩
    simp_arith []
end
section
theorem char_ok (z : Int) : ∃ c : Nat, m__law_char [.int z] = .ok (.str ⟨#[c]⟩) ∧ c < 128 := by
  have key : ∃ d, m__law_char [.int z] = .ok d ∧ ∃ c : Nat, d = .str ⟨#[c]⟩ ∧ c < 128 := by
    refine m_ex ?_
    unfold b__law_char
    have hA : addD (.str " !\"#$&'()*+,-./0123456789:;<=>?@ABCDEFGHIJKLMNOPQRSTUVWXYZ[\\]^_`") (.str "abcdefghijklmnopqrstuvwxyz{|}~\n") = .ok (.str (" !\"#$&'()*+,-./0123456789:;<=>?@ABCDEFGHIJKLMNOPQRSTUVWXYZ[\\]^_`abcdefghijklmnopqrstuvwxyz{|}~\n" : String)) := by
      rw [add_str (by decide +kernel)]
      congr 2
    simp_arith [Int.reduceLT, hA]
    have h0 := Int.emod_nonneg z (show (95 : Int) ≠ 0 by decide)
    have h1 := Int.emod_lt_of_pos z (show (0 : Int) < 95 by decide)
    generalize z % 95 = m at h0 h1
    obtain ⟨n, rfl⟩ := Int.eq_ofNat_of_zero_le h0
    have hl : ((" !\"#$&'()*+,-./0123456789:;<=>?@ABCDEFGHIJKLMNOPQRSTUVWXYZ[\\]^_`abcdefghijklmnopqrstuvwxyz{|}~\n" : String) : Str).length = 95 := by decide +kernel
    obtain ⟨c, hc, hg⟩ := @strGet_of (" !\"#$&'()*+,-./0123456789:;<=>?@ABCDEFGHIJKLMNOPQRSTUVWXYZ[\\]^_`abcdefghijklmnopqrstuvwxyz{|}~\n" : String) n (by rw [hl]; decide) (by rw [hl]; omega)
    simp_arith [hg]
    refine ⟨c, rfl, ?_⟩
    have hm := List.mem_of_getElem? hc
    have hall : ∀ c ∈ ((" !\"#$&'()*+,-./0123456789:;<=>?@ABCDEFGHIJKLMNOPQRSTUVWXYZ[\\]^_`abcdefghijklmnopqrstuvwxyz{|}~\n" : String) : Str).cps.toList, c < 128 := by decide +kernel
    exact hall c hm
  obtain ⟨d, h1, c, rfl, h2⟩ := key
  exact ⟨c, h1, h2⟩

end
section
end
section
theorem ne_nil {ds : List D} (h : ds.all (treeB 2) = true) : neO (.lst ds) (.lst []) = .ok (.bl (!ds.isEmpty)) ∧ eqO (.lst ds) (.lst []) = .ok (.bl ds.isEmpty) := by
  obtain ⟨b, h1, h2, h3⟩ := eqO_tree (n := 3) (d := .lst ds) (e := .lst []) h rfl (by decide)
  have hb : b = ds.isEmpty := by
    cases ds with
    | nil => cases b with
      | true => rfl
      | false => exact (h3.mpr rfl)
    | cons d r => cases b with
      | true => have := h3.mp rfl; cases this
      | false => rfl
  rw [h1, h2, hb]
  exact ⟨rfl, rfl⟩

end
section
theorem starts_hash (s : Str) : Txt.startswith s "#" = decide ((TL.tl s)[0]? = some 35) := by
  have e : ("#" : Str) = ⟨#[35]⟩ := str_ext (by decide +kernel)
  rw [e]
  unfold Txt.startswith
  rw [Bool.eq_iff_iff, Bool.and_eq_true, decide_eq_true_eq, decide_eq_true_eq]
  exact PySem.StrLaws.subAt_one s 35 0
theorem nil_tl {s : Str} : s = "" ↔ TL.tl s = [] := ⟨fun e => by rw [e]; decide +kernel, fun e => str_ext (by rw [show s.cps.toList = [] from e]; decide +kernel)⟩
theorem tl_app (s t : Str) : TL.tl (s ++ t) = TL.tl s ++ TL.tl t := str_app s t
theorem ok_nil : okS "" = true := by decide +kernel

end
section
theorem split_ne (x y : Str) : Txt.split x y ≠ [] := fun e => by
  have := PyProof.Rows.split_pos x y
  rw [e] at this
  exact absurd this (by decide)
theorem join_part (y : Str) : ∀ (l : List Str) (p : Str), p ∈ l → p.length ≤ (Txt.join y l).length ∧ ∀ c ∈ TL.tl p, c ∈ TL.tl (Txt.join y l)
  | [], _, h => by cases h
  | [a], p, h => by rw [List.mem_singleton.mp h, join_one]; exact ⟨Nat.le_refl _, fun _ h => h⟩
  | a :: b :: r, p, h => by
    rw [join_cons]
    have e : ∀ s t : Str, TL.tl (s ++ t) = TL.tl s ++ TL.tl t := fun s t => str_app s t
    rw [str_app_len, str_app_len, e, e]
    rcases List.mem_cons.mp h with rfl | h
    · exact ⟨by omega, fun c hc => by simp [hc]⟩
    · obtain ⟨h1, h2⟩ := join_part y (b :: r) p h
      exact ⟨by omega, fun c hc => by simp [h2 c hc]⟩
theorem split_part {x y p : Str} (h : p ∈ Txt.split x y) : p.length ≤ x.length ∧ ∀ c ∈ TL.tl p, c ∈ TL.tl x := by
  have e : Txt.join y (Txt.split x y) = x := by rw [TL.join_eq]; exact PySem.StrLaws.join_split x y
  have := join_part y _ p h
  rw [e] at this
  exact this
theorem okS_in {s : Str} (h : okS s = true) : ∀ c ∈ TL.tl s, c < 0x110000 := fun c hc => by
  unfold okS at h
  rw [Array.all_eq_true] at h
  obtain ⟨i, hi, e⟩ := Array.mem_iff_getElem.mp (Array.mem_toList_iff.mp hc)
  have := h i hi
  rw [e] at this
  exact of_decide_eq_true this
structure TxO (t : Str) : Prop where
  ok : okS t = true
  len : t.length ≤ 900000
theorem TxO.part {t y p : Str} (h : TxO t) (hp : p ∈ Txt.split t y) : TxO p := by
  obtain ⟨h1, h2⟩ := split_part hp
  exact ⟨okS_of fun c hc => okS_in h.ok c (h2 c hc), by have := h.len; omega⟩
theorem splitD_x {t y : Str} (h : TxO t) (hy : (y.length == 0) = false) : splitD t (.str y) = .ok (.lst (txts (Txt.split t y))) := if_pos ⟨hy, by have hs := sizeLine_eq; have := h.len; omega⟩
theorem split_few {t y : Str} (h : TxO t) : (Txt.split t y).length ≤ 900002 := by
  have h1 := PyProof.Rows.split_le t y
  have := h.len
  omega
def ansD (n : Int) : Option D → Res D
  | some d => .ok d
  | none => .exc "BadLine" [(("line" : Str), D.int n)]
def orN : Option D → D
  | some d => d
  | none => .non
theorem run_of_x {l : List Str} (h : ∀ s ∈ l, TxO s) (n : Int) : m_run_of [.lst (txts l), .int n] = ansD n (if runB l = true then some (.tup (txts l)) else none) := by
  have ht : tupleF [.lst (txts l)] = .ok (.tup (txts l)) := rfl
  have hc := check_run_gen l fun s hs => by have := (h s hs).len; omega
  have key : b_run_of (env0 3 [.lst (txts l), .int n]) = if runB l = true then .rt (.tup (txts l)) else .xc "BadLine" [(("line" : Str), D.int n)] [.sh (.lst (txts l)), .sh (.int n), .sh (.tup (txts l))] := by
    unfold b_run_of
    cases q : runB l with
    | true =>
      rw [q, if_pos rfl] at hc
      rw [seq_eq]
      simp_arith [ht]
      have e : tryXS (dropS (aE m_check_run (consA (getP 2) nilA))) [("BadRun", true), ("BadLine", false)] (raiseS "BadLine" ["line"] (consA (getP 1) nilA)) [.sh (.lst (txts l)), .sh (.int n), .sh (.tup (txts l))] = .nx [.sh (.lst (txts l)), .sh (.int n), .sh (.tup (txts l))] := by
        unfold tryXS
        simp_arith [hc]
      rw [e]
      simp_arith []
    | false =>
      rw [q, if_neg Bool.false_ne_true] at hc
      rw [seq_eq]
      simp_arith [ht]
      have e : tryXS (dropS (aE m_check_run (consA (getP 2) nilA))) [("BadRun", true), ("BadLine", false)] (raiseS "BadLine" ["line"] (consA (getP 1) nilA)) [.sh (.lst (txts l)), .sh (.int n), .sh (.tup (txts l))] = .xc "BadLine" [(("line" : Str), D.int n)] [.sh (.lst (txts l)), .sh (.int n), .sh (.tup (txts l))] := by
        unfold tryXS
        simp_arith [hc, List.lookup_cons_self, List.zip_cons_cons, List.zip_nil_right, List.reverse_cons, List.reverse_nil]
      rw [e]
      simp_arith []
  show defM 3 b_run_of _ = _
  unfold defM
  rw [key]
  cases runB l <;> rfl

end
section
theorem cut_at (z : Str) : ∀ l : List Str, l.count z = 1 → ∃ a b, l = a ++ z :: b ∧ z ∉ a ∧ z ∉ b
  | [], h => by simp at h
  | s :: l, h => by
    by_cases e : s = z
    · subst e
      refine ⟨[], l, rfl, by simp, fun hm => ?_⟩
      have h1 := List.count_pos_iff.mpr hm
      rw [List.count_cons_self] at h
      omega
    · rw [List.count_cons] at h
      obtain ⟨a, b, rfl, h1, h2⟩ := cut_at z l (by simpa [e] using h)
      refine ⟨s :: a, b, rfl, fun hm => ?_, h2⟩
      rcases List.mem_cons.mp hm with rfl | hm
      · exact e rfl
      · exact h1 hm
def eqW : Str := "="
inductive RdW : List Str → Option D → Prop
  | one {w : Str} {r : List Str} (hw : oneK w) : RdW (w :: r) (if runB r = true then some (factD w [r]) else none)
  | two {w : Str} {a b : List Str} (hw : twoK w) (ha : eqW ∉ a) (hb : eqW ∉ b) : RdW (w :: (a ++ eqW :: b)) (if (runB a && runB b) = true then some (factD w [a, b]) else none)
  | twoN {w : Str} {r : List Str} (hw : twoK w) (hc : r.count eqW ≠ 1) : RdW (w :: r) none
  | no {w : Str} {r : List Str} (h1 : ¬ oneK w) (h2 : ¬ twoK w) : RdW (w :: r) none
theorem rd_all : ∀ ws : List Str, ws ≠ [] → ∃ o, RdW ws o
  | [], h => absurd rfl h
  | w :: r, _ => by
    by_cases h1 : oneK w
    · exact ⟨_, .one h1⟩
    by_cases h2 : twoK w
    · by_cases h3 : r.count eqW = 1
      · obtain ⟨a, b, rfl, ha, hb⟩ := cut_at eqW r h3
        exact ⟨_, .two h2 ha hb⟩
      · exact ⟨_, .twoN h2 h3⟩
    · exact ⟨_, .no h1 h2⟩
theorem ansD_s (n : Int) (d : D) : ansD n (some d) = .ok d := rfl
theorem ansD_n (n : Int) : ansD n none = .exc "BadLine" [(("line" : Str), D.int n)] := rfl
theorem cut_two (w z : Str) (a b : List Str) : cutD (txts (w :: (a ++ z :: b))) (some 1) (some ((a.length + 1 : Nat) : Int)) = txts a ∧ cutD (txts (w :: (a ++ z :: b))) (some (((a.length + 1 : Nat) : Int) + 1)) none = txts b := by
  constructor
  · have el : (txts (w :: (a ++ z :: b))).length = a.length + 2 + b.length := by rw [txts_len, List.length_cons, List.length_append, List.length_cons]; omega
    unfold cutD
    have e1 : HT.sIx (txts (w :: (a ++ z :: b))).length 0 (some 1) = 1 := by
      rw [el, show (1 : Int) = ((1 : Nat) : Int) from rfl, HT.sIx_nat]; omega
    have e2 : HT.sIx (txts (w :: (a ++ z :: b))).length (txts (w :: (a ++ z :: b))).length (some ((a.length + 1 : Nat) : Int)) = a.length + 1 := by
      rw [HT.sIx_nat, el]; omega
    rw [e1, e2]
    show ((txts (a ++ z :: b))).take (a.length + 1 - 1) = _
    rw [txts_app, List.take_append_of_le_length (by rw [txts_len]; omega), List.take_of_length_le (by rw [txts_len]; omega)]
  · rw [show (((a.length + 1 : Nat) : Int) + 1) = ((a.length + 2 : Nat) : Int) by omega, cutD_from]
    show (txts (a ++ z :: b)).drop (a.length + 1) = _
    rw [txts_app, List.drop_append, List.drop_of_length_le (by rw [txts_len]; omega), txts_len, show a.length + 1 - a.length = 1 by omega]
    rfl
theorem not_one {w : Str} (h : ¬ oneK w) : (["goes", "fails"] : List Str).contains w = false := by
  cases q : (["goes", "fails"] : List Str).contains w with
  | false => rfl
  | true =>
    have := List.contains_iff_mem.mp q
    simp only [List.mem_cons, List.not_mem_nil, or_false] at this
    exact absurd this h
theorem not_two {w : Str} (h : ¬ twoK w) : (["alike", "apart"] : List Str).contains w = false := by
  cases q : (["alike", "apart"] : List Str).contains w with
  | false => rfl
  | true =>
    have := List.contains_iff_mem.mp q
    simp only [List.mem_cons, List.not_mem_nil, or_false] at this
    exact absurd this h
theorem casNo {w : Str} (h1 : ¬ oneK w) (h2 : ¬ twoK w) : ∀ (χ χ2 χ3 : Env → SRes) (r : List CaD) (env : Env), casS w ((some ["goes", "fails"], χ2) :: (some ["alike", "apart"], χ) :: (none, χ3) :: r) env = χ3 env := fun χ χ2 χ3 r env => by
  show (if (["goes", "fails"] : List Str).contains w = true then χ2 env else if (["alike", "apart"] : List Str).contains w = true then χ env else χ3 env) = _
  rw [not_one h1, not_two h2, if_neg Bool.false_ne_true, if_neg Bool.false_ne_true]
theorem count_eq (l : List Str) : countD (txts l) (.str "=") = .ok (.int (l.count eqW : Nat)) := by
  unfold countD
  rw [if_pos ⟨rfl, flat_txts _⟩]
  exact congrArg (fun n : Nat => Res.ok (D.int (n : Int))) (count_txts eqW l)
theorem two_ne {w : Str} (hw : twoK w) : w ≠ eqW := by rcases hw with rfl | rfl <;> decide +kernel
theorem nz1 {n : Nat} (h : n ≠ 1) : decide ((n : Int) = 1) = false := decide_eq_false (by omega)
theorem fact_of_x {t : Str} (ht : TxO t) {o : Option D} (h : RdW (Txt.split t " ") o) (n : Int) : m_fact_of [.str t, .int n] = ansD n o := by
  have hs : splitD t (.str " ") = .ok (.lst (txts (Txt.split t " "))) := splitD_x ht (by decide +kernel)
  have hp : ∀ s ∈ Txt.split t " ", TxO s := fun s hs => ht.part hs
  generalize Txt.split t " " = ws at h hs hp
  refine m_out ?_
  unfold b_fact_of
  rw [seq_eq]
  cases h with
  | @one w r hw =>
    have hr := run_of_x (l := r) (fun s hs => hp s (List.mem_cons_of_mem _ hs)) n
    have hc : cutD (txts (w :: r)) (some 1) none = txts r := by rw [show (1 : Int) = ((1 : Nat) : Int) from rfl, cutD_from]; rfl
    have g0 : seqGet (txts (w :: r)) 0 = .ok (.str w) := @seqGet_of _ 0 _ rfl
    have t2 : tupD [.str w, .tup (txts r)] = .ok (factD w [r]) := tup_ok (le_line (show 2 ≤ 1000000 by decide))
    generalize txts (w :: r) = W at *
    simp_arith [hs, matS_eq, rMat_ok, g0]
    rw [casOne hw]
    cases q : runB r with
    | true =>
      rw [q, if_pos rfl, ansD_s] at hr
      simp_arith [hc, g0, hr, t2, if_true, ansD_s]
      exact rfl
    | false =>
      rw [q, if_neg Bool.false_ne_true, ansD_n] at hr
      simp_arith [hc, g0, hr, if_false, ansD_n]
      exact ⟨rfl, rfl⟩
  | @two w a b hw ha hb =>
    have hr1 := run_of_x (l := a) (fun s hs => hp s (by simp [hs])) n
    have hr2 := run_of_x (l := b) (fun s hs => hp s (by simp [hs])) n
    have g0 : seqGet (txts (w :: (a ++ eqW :: b))) 0 = .ok (.str w) := @seqGet_of _ 0 _ rfl
    have t2 : tupD [.str w, .tup (txts a), .tup (txts b)] = .ok (factD w [a, b]) := tup_ok (le_line (show 3 ≤ 1000000 by decide))
    have nw : eqW ∉ w :: a := fun hm => by
      rcases List.mem_cons.mp hm with e | hm
      · exact two_ne hw e.symm
      · exact ha hm
    have hcnt : countD (txts (w :: (a ++ eqW :: b))) (.str "=") = .ok (.int 1) := by
      rw [count_eq, show w :: (a ++ eqW :: b) = (w :: a) ++ eqW :: b from rfl, List.count_append, List.count_eq_zero.mpr nw, List.count_cons_self, List.count_eq_zero.mpr hb]
      rfl
    have hidx : indexD (txts (w :: (a ++ eqW :: b))) (.str "=") = .ok (.int ((a.length + 1 : Nat) : Int)) := by
      unfold indexD
      have e := find_txts eqW (w :: a) b nw
      rw [if_pos ⟨rfl, flat_txts _⟩]
      show (match (txts ((w :: a) ++ eqW :: b)).findIdx? fun d => eqD d (.str eqW) with | some i => Res.ok (D.int (i : Int)) | none => Res.bad) = _
      rw [e]
      rfl
    obtain ⟨hc1, hc2⟩ := cut_two w eqW a b
    generalize txts (w :: (a ++ eqW :: b)) = W at *
    simp_arith [hs, matS_eq, rMat_ok, g0]
    rw [casTwo hw]
    have d1 : decide ((1 : Int) = 1) = true := rfl
    cases q1 : runB a with
    | false =>
      rw [q1, if_neg Bool.false_ne_true, ansD_n] at hr1
      simp_arith [lmE_eq, Res.bind, hcnt, d1, decide_true, hidx, hc1, hc2, g0, hr1, if_false, ansD_n]
      exact ⟨rfl, rfl⟩
    | true =>
      rw [q1, if_pos rfl, ansD_s] at hr1
      cases q2 : runB b with
      | false =>
        rw [q2, if_neg Bool.false_ne_true, ansD_n] at hr2
        simp_arith [lmE_eq, Res.bind, hcnt, d1, decide_true, hidx, hc1, hc2, g0, hr1, hr2, if_false, ansD_n]
        exact ⟨rfl, rfl⟩
      | true =>
        rw [q2, if_pos rfl, ansD_s] at hr2
        simp_arith [lmE_eq, Res.bind, hcnt, d1, decide_true, hidx, hc1, hc2, g0, hr1, hr2, t2, if_true, ansD_s]
        exact rfl
  | @twoN w r hw hc =>
    have g0 : seqGet (txts (w :: r)) 0 = .ok (.str w) := @seqGet_of _ 0 _ rfl
    have hcnt : countD (txts (w :: r)) (.str "=") = .ok (.int (r.count eqW : Nat)) := by
      rw [count_eq, List.count_cons, if_neg (by simpa using two_ne hw)]
      rfl
    have d1 := nz1 hc
    generalize txts (w :: r) = W at *
    generalize r.count eqW = m at *
    simp_arith [hs, matS_eq, rMat_ok, g0]
    rw [casTwo hw]
    simp_arith [lmE_eq, Res.bind, hcnt, d1, ansD_n]
    exact ⟨rfl, rfl⟩
  | @no w r h1 h2 =>
    have g0 : seqGet (txts (w :: r)) 0 = .ok (.str w) := @seqGet_of _ 0 _ rfl
    generalize txts (w :: r) = W at *
    simp_arith [hs, matS_eq, rMat_ok, g0]
    rw [casNo h1 h2]
    simp_arith [ansD_n]
    exact ⟨rfl, rfl⟩
def plc (z : Str) : List Str → Nat → List Nat
  | [], _ => []
  | s :: l, k => if s = z then k :: plc z l (k + 1) else plc z l (k + 1)
theorem plc_len (z : Str) : ∀ (l : List Str) (k : Nat), (plc z l k).length = l.count z
  | [], _ => rfl
  | s :: l, k => by
    have h := plc_len z l (k + 1)
    unfold plc
    rw [List.count_cons]
    by_cases e : s = z <;> simp [e, h]
theorem plc_no (z : Str) : ∀ (l : List Str) (k : Nat), z ∉ l → plc z l k = []
  | [], _, _ => rfl
  | s :: l, k, h => by
    unfold plc
    rw [if_neg fun e => h (by simp [e])]
    exact plc_no z l (k + 1) fun hm => h (by simp [hm])
theorem plc_app (z : Str) : ∀ (l m : List Str) (k : Nat), z ∉ l → plc z (l ++ m) k = plc z m (k + l.length)
  | [], m, k, _ => rfl
  | s :: l, m, k, h => by
    show (if s = z then k :: plc z (l ++ m) (k + 1) else plc z (l ++ m) (k + 1)) = _
    rw [if_neg fun e => h (by simp [e]), plc_app z l m (k + 1) fun hm => h (by simp [hm]), List.length_cons]
    congr 1
    omega
theorem rangeD_s (k n : Nat) : rangeD (k : Int) (n + 1) = .int (k : Int) :: rangeD ((k + 1 : Nat) : Int) n := by
  unfold rangeD
  rw [List.range_succ_eq_map, List.map_cons, List.map_map]
  refine congr (congrArg List.cons ?_) (List.map_congr_left fun i _ => ?_)
  · exact congrArg D.int (by simp)
  · exact congrArg D.int (by show (k : Int) + ((i + 1 : Nat) : Int) = ((k + 1 : Nat) : Int) + (i : Int); omega)
theorem fil_plc (z : Str) (p : D → Bool) : ∀ (l : List Str) (k : Nat), (∀ (i : Nat) (s : Str), l[i]? = some s → p (.int ((k + i : Nat) : Int)) = decide (s = z)) → (rangeD (k : Int) l.length).filter p = (plc z l k).map fun i => .int (i : Int)
  | [], k, _ => rfl
  | s :: l, k, h => by
    have h0 := h 0 s rfl
    rw [List.length_cons, rangeD_s]
    have ih := fil_plc z p l (k + 1) fun i t q => by
      have := h (i + 1) t (by rw [gs_]; exact q)
      rw [show k + 1 + i = k + (i + 1) by omega]
      exact this
    unfold plc
    have h0 : p (.int (k : Int)) = decide (s = z) := h0
    by_cases e : s = z
    · rw [List.filter_cons_of_pos (by rw [h0]; simpa using e), ih, if_pos e]; rfl
    · rw [List.filter_cons_of_neg (by rw [h0]; simpa using e), ih, if_neg e]
def isAt (ws : List Str) : D → Bool
  | .int i => decide (ws[i.toNat]? = some eqW)
  | _ => false
theorem places_ok {t : D} {ws : List Str} (hp : ∀ s ∈ ws, TxO s) (hl : ws.length ≤ 1000000) : lcE [4] (gnG 4) (aI range1 (consA (aE lenF (consA (getP 1) nilA)) nilA)) (tE (op2 eqO (op2 getD (getP 1) (getP 4)) (cE (.str "=")))) (getP 4) [.sh t, .sh (.lst (txts ws)), .no, .no, .no] = .ok (.lst ((plc eqW ws 0).map fun i : Nat => .int (i : Int))) := by
  refine (lcE_fil (isAt ws) (fun d => d) (ds := rangeD 0 ws.length) ?_ ?_ ?_).trans ?_
  · have e : lenF [.lst (txts ws)] = .ok (.int (ws.length : Int)) := by rw [len_lst, txts_len]
    simp_arith [e]
    exact range1_nat (by omega)
  · rw [rangeD_len]
    exact le_line hl
  · intro d hd
    obtain ⟨i, hi, rfl⟩ := rangeD_mem hd
    have gi : ws[i]? = some ws[i] := List.getElem?_eq_getElem hi
    have ei : (0 : Int) + (i : Int) = (i : Int) := by omega
    have q := eqO_str (hp _ (List.mem_of_getElem? gi)).ok (show okS ("=" : Str) = true by decide +kernel)
    refine ⟨_, rfl, ?_, fun _ => rfl⟩
    have g1 := txts_get gi
    simp_arith [ei, g1, q]
    show Res.ok (decide (ws[i] = "=")) = .ok (decide (ws[(i : Int).toNat]? = some eqW))
    rw [Int.toNat_natCast, gi]
    simp only [Option.some.injEq]
    rfl
  · rw [List.map_id'']
    · exact congrArg (fun l => Res.ok (D.lst l)) (fil_plc eqW (isAt ws) ws 0 fun i s q => by
        show decide (ws[((0 + i : Nat) : Int).toNat]? = some eqW) = _
        rw [Int.toNat_natCast, Nat.zero_add, q]
        simp only [Option.some.injEq])
    · exact fun _ => rfl
theorem goodF_eq (w : Str) (rs : List (List Str)) : goodF (some (w, rs)) = match wTbl.lookup w with
  | some i => decide ((rs.length : Int) = i) && rs.all runB
  | none => false := rfl
theorem goodF1 {w : Str} (hw : oneK w) (r : List Str) : goodF (some (w, [r])) = runB r := by
  have e : wTbl.lookup w = some 1 := by rcases hw with rfl | rfl <;> decide +kernel
  rw [goodF_eq, e]
  show (true && (runB r && true)) = _
  rw [Bool.true_and, Bool.and_true]
theorem goodF2 {w : Str} (hw : twoK w) (a b : List Str) : goodF (some (w, [a, b])) = (runB a && runB b) := by
  have e : wTbl.lookup w = some 2 := by rcases hw with rfl | rfl <;> decide +kernel
  rw [goodF_eq, e]
  show (true && (runB a && (runB b && true))) = _
  rw [Bool.true_and, Bool.and_true]
theorem goodF0 {w : Str} (h1 : ¬ oneK w) (h2 : ¬ twoK w) (rs : List (List Str)) : goodF (some (w, rs)) = false := by
  have e : wTbl.lookup w = none := by
    by_cases q : wTbl.lookup w = none
    · exact q
    · rcases words4 q with h | h | h | h
      · exact absurd (.inl h) h1
      · exact absurd (.inr h) h1
      · exact absurd (.inl h) h2
      · exact absurd (.inr h) h2
  rw [goodF_eq, e]
theorem okW : okS ("goes" : Str) = true ∧ okS ("fails" : Str) = true := by decide +kernel
theorem law_read_one {t : Str} {w : Str} {r : List Str} (hs : splitD t (.str " ") = .ok (.lst (txts (w :: r)))) (hp : ∀ s ∈ w :: r, TxO s) (hw : oneK w) : m__law_read_fact [.str t] = .ok (if runB r = true then factD w [r] else .non) := by
  have hg := law_is_good_fact_w (some (w, [r])) (fun w' rs' e => by
    cases e
    refine ⟨(hp w (by simp)).ok, fun r' hr s hs => ?_⟩
    rw [List.mem_singleton.mp hr] at hs
    have := hp s (by simp [hs])
    exact ⟨this.ok, by have := this.len; omega⟩)
  rw [goodF1 hw] at hg
  have hg : m__law_is_good_fact [.tup [.str w, .tup (txts r)]] = .ok (.bl (runB r)) := hg
  have hc : cutD (txts (w :: r)) (some 1) none = txts r := by rw [show (1 : Int) = ((1 : Nat) : Int) from rfl, cutD_from]; rfl
  have g0 : seqGet (txts (w :: r)) 0 = .ok (.str w) := @seqGet_of _ 0 _ rfl
  have t2 : tupD [.str w, .tup (txts r)] = .ok (factD w [r]) := tup_ok (le_line (show 2 ≤ 1000000 by decide))
  have tf : tupleF [.lst (txts r)] = .ok (.tup (txts r)) := rfl
  have b1 := eqO_str (hp w (by simp)).ok okW.1
  have b2 := eqO_str (hp w (by simp)).ok okW.2
  have key : decide (w = "goes") = true ∨ decide (w = "goes") = false ∧ decide (w = "fails") = true := by
    rcases hw with rfl | rfl <;> decide +kernel
  generalize txts (w :: r) = W at *
  refine m_ok ?_
  unfold b__law_read_fact
  rw [seq_eq]
  simp_arith [hs]
  rcases key with k1 | ⟨k1, k2⟩
  · rw [k1] at b1
    cases q : runB r <;> rw [q] at hg <;> simp_arith [g0, b1, hc, tf, t2, hg, if_false, if_true] <;> rfl
  · rw [k1] at b1
    rw [k2] at b2
    cases q : runB r <;> rw [q] at hg <;> simp_arith [g0, b1, b2, hc, tf, t2, hg, if_false, if_true] <;> rfl
theorem not_goes {w : Str} (h : ¬ oneK w) : decide (w = "goes") = false ∧ decide (w = "fails") = false := ⟨decide_eq_false fun e => h (.inl e), decide_eq_false fun e => h (.inr e)⟩
theorem law_read_two {t : Str} {w : Str} {a b : List Str} (hs : splitD t (.str " ") = .ok (.lst (txts (w :: (a ++ eqW :: b))))) (hp : ∀ s ∈ w :: (a ++ eqW :: b), TxO s) (hl : (w :: (a ++ eqW :: b)).length ≤ 1000000) (hw : ¬ oneK w) (hwe : w ≠ eqW) (ha : eqW ∉ a) (hb : eqW ∉ b) :
    m__law_read_fact [.str t] = .ok (if goodF (some (w, [a, b])) = true then factD w [a, b] else .non) := by
  have hg := law_is_good_fact_w (some (w, [a, b])) (fun w' rs' e => by
    cases e
    refine ⟨(hp w (by simp)).ok, fun r' hr s hm => ?_⟩
    have : TxO s := by
      simp only [List.mem_cons, List.not_mem_nil, or_false] at hr
      rcases hr with hr | hr
      · rw [hr] at hm
        exact hp s (by simp [hm])
      · rw [hr] at hm
        exact hp s (by simp [hm])
    exact ⟨this.ok, by have := this.len; omega⟩)
  have hg : m__law_is_good_fact [.tup [.str w, .tup (txts a), .tup (txts b)]] = .ok (.bl (goodF (some (w, [a, b])))) := hg
  have g0 : seqGet (txts (w :: (a ++ eqW :: b))) 0 = .ok (.str w) := @seqGet_of _ 0 _ rfl
  have t2 : tupD [.str w, .tup (txts a), .tup (txts b)] = .ok (factD w [a, b]) := tup_ok (le_line (show 3 ≤ 1000000 by decide))
  have tf1 : tupleF [.lst (txts a)] = .ok (.tup (txts a)) := rfl
  have tf2 : tupleF [.lst (txts b)] = .ok (.tup (txts b)) := rfl
  have b1 := eqO_str (hp w (by simp)).ok okW.1
  have b2 := eqO_str (hp w (by simp)).ok okW.2
  rw [(not_goes hw).1] at b1
  rw [(not_goes hw).2] at b2
  have hpl := places_ok (t := .str t) hp hl
  have ep : (plc eqW (w :: (a ++ eqW :: b)) 0).map (fun i : Nat => D.int (i : Int)) = [.int ((a.length + 1 : Nat) : Int)] := by
    show ((if w = eqW then 0 :: plc eqW (a ++ eqW :: b) (0 + 1) else plc eqW (a ++ eqW :: b) (0 + 1)).map _) = _
    rw [if_neg hwe, plc_app eqW a _ _ ha]
    show ((if eqW = eqW then (0 + 1 + a.length) :: plc eqW b (0 + 1 + a.length + 1) else _).map _) = _
    rw [if_pos rfl, plc_no eqW b _ hb, show 0 + 1 + a.length = a.length + 1 by omega]
    rfl
  rw [ep] at hpl
  obtain ⟨hc1, hc2⟩ := cut_two w eqW a b
  generalize txts (w :: (a ++ eqW :: b)) = W at *
  have d1 : decide ((((a.length + 1 : Nat) : Int)) = 0) = false := decide_eq_false (by omega)
  have g1 : seqGet [D.int ((a.length + 1 : Nat) : Int)] 0 = .ok (.int ((a.length + 1 : Nat) : Int)) := rfl
  generalize ((a.length + 1 : Nat) : Int) = p at *
  refine m_ok ?_
  unfold b__law_read_fact
  rw [seq_eq]
  simp_arith [hs, g0, b1, b2, hpl]
  have k1 : decide (((1 : Nat) : Int) = 1) = true := rfl
  cases q : goodF (some (w, [a, b])) <;> rw [q] at hg <;> simp_arith [k1, g0, g1, d1, hc1, hc2, tf1, tf2, t2, hg, if_false, if_true] <;> rfl
theorem law_read_N {t : Str} {w : Str} {r : List Str} (hs : splitD t (.str " ") = .ok (.lst (txts (w :: r)))) (hp : ∀ s ∈ w :: r, TxO s) (hl : (w :: r).length ≤ 1000000) (hw : ¬ oneK w) (hn : (w :: r).count eqW ≠ 1 ∨ w = eqW) : m__law_read_fact [.str t] = .ok .non := by
  have g0 : seqGet (txts (w :: r)) 0 = .ok (.str w) := @seqGet_of _ 0 _ rfl
  have b1 := eqO_str (hp w (by simp)).ok okW.1
  have b2 := eqO_str (hp w (by simp)).ok okW.2
  rw [(not_goes hw).1] at b1
  rw [(not_goes hw).2] at b2
  have hpl := places_ok (t := .str t) hp hl
  generalize hL : (plc eqW (w :: r) 0).map (fun i : Nat => D.int (i : Int)) = L at hpl
  have e1 : L.length = (w :: r).count eqW := by rw [← hL, List.length_map, plc_len]
  have gL : w = eqW → seqGet L 0 = .ok (.int 0) := fun e => by
    rw [← hL]
    subst e
    have : plc eqW (eqW :: r) 0 = 0 :: plc eqW r (0 + 1) := if_pos rfl
    rw [this]
    exact @seqGet_of _ 0 _ rfl
  generalize txts (w :: r) = W at *
  generalize (w :: r).count eqW = m at *
  refine m_ok ?_
  unfold b__law_read_fact
  rw [seq_eq]
  simp_arith [hs, g0, b1, b2, hpl]
  by_cases h1 : m = 1
  · rcases hn with hn | hn
    · exact absurd h1 hn
    · have k1 : decide (((m : Nat) : Int) = 1) = true := decide_eq_true (by omega)
      have gL := gL hn
      simp_arith [e1, k1, gL, decide_true]
  · have k1 := nz1 h1
    simp_arith [e1, k1]
theorem law_read_fact_x {t : Str} (ht : TxO t) {o : Option D} (h : RdW (Txt.split t " ") o) : m__law_read_fact [.str t] = .ok (orN o) := by
  have hs : splitD t (.str " ") = .ok (.lst (txts (Txt.split t " "))) := splitD_x ht (by decide +kernel)
  have hp : ∀ s ∈ Txt.split t " ", TxO s := fun s hs => ht.part hs
  have hl := split_few (y := " ") ht
  generalize Txt.split t " " = ws at h hs hp hl
  cases h with
  | @one w r hw =>
    rw [law_read_one hs hp hw]
    cases runB r <;> rfl
  | @two w a b hw ha hb =>
    have nw : ¬ oneK w := fun h1 => by rcases hw with rfl | rfl <;> revert h1 <;> unfold oneK <;> decide +kernel
    rw [law_read_two hs hp (by omega) nw (two_ne hw) ha hb, goodF2 hw]
    cases (runB a && runB b) <;> rfl
  | @twoN w r hw hc =>
    have nw : ¬ oneK w := fun h1 => by rcases hw with rfl | rfl <;> revert h1 <;> unfold oneK <;> decide +kernel
    exact law_read_N hs hp (by omega) nw (.inl (by rw [List.count_cons, if_neg (by simpa using two_ne hw)]; exact hc))
  | @no w r h1 h2 =>
    by_cases e : w = eqW
    · exact law_read_N hs hp (by omega) h1 (.inr e)
    by_cases hc : r.count eqW = 1
    · obtain ⟨a, b, rfl, ha, hb⟩ := cut_at eqW r hc
      rw [law_read_two hs hp (by omega) h1 e ha hb, goodF0 h1 h2]
      rfl
    · exact law_read_N hs hp (by omega) h1 (.inl (by rw [List.count_cons, if_neg (by simpa using e)]; exact hc))

end
section
theorem read_fact_x {t : Str} (ht : TxO t) {o : Option D} (h : RdW (Txt.split t " ") o) : m_read_fact [.str t] = ansD 1 o := by
  have hf := fact_of_x ht h 1
  refine m_out ?_
  unfold b_read_fact
  cases o with
  | none =>
    rw [ansD_n] at hf ⊢
    simp_arith [hf]
    exact ⟨rfl, rfl⟩
  | some d =>
    rw [ansD_s] at hf ⊢
    simp_arith [hf]
    exact rfl
def runO (t : Str) : Option D := if runB (Txt.split t " ") = true then some (.tup (txts (Txt.split t " "))) else none
theorem read_run_x {t : Str} (ht : TxO t) : m_read_run [.str t] = ansD 1 (runO t) := by
  have hs : splitD t (.str " ") = .ok (.lst (txts (Txt.split t " "))) := splitD_x ht (by decide +kernel)
  have hf := run_of_x (l := Txt.split t " ") (fun s hs => ht.part hs) 1
  have hf : m_run_of [.lst (txts (Txt.split t " ")), .int 1] = ansD 1 (runO t) := hf
  generalize runO t = o at hf ⊢
  refine m_out ?_
  unfold b_read_run
  cases o with
  | none =>
    rw [ansD_n] at hf ⊢
    simp_arith [hs, hf]
    exact ⟨rfl, rfl⟩
  | some d =>
    rw [ansD_s] at hf ⊢
    simp_arith [hs, hf]
    exact rfl
theorem refused_line_ok (n : Int) : m__law_refused_line [.exn "BadLine" [(("line" : Str), D.int n)], .int n] = .ok (.bl true) := by
  have h1 : ∀ (tbl : List (Str × Bool)) (b : Bool), tbl.lookup ("BadLine" : Str) = some b → isX tbl (.exn "BadLine" [(("line" : Str), D.int n)]) = .ok (.bl b) := fun tbl b e => by
    rw [isX_exn, e]
  have h2 : fldX [("BadLine" : Str)] "line" (.exn "BadLine" [(("line" : Str), D.int n)]) = .ok (D.int n) := by
    rw [fldX_exn, List.lookup_cons_self, if_pos (by simp)]
  refine m_ok ?_
  unfold b__law_refused_line
  have hi : m__law_is_integer [.int n] = .ok (.bl true) := rfl
  simp_arith [h1 [(("BadRun" : Str), true), ("BadLine", true)] true (by decide +kernel), h1 [(("BadRun" : Str), true), ("BadLine", false)] false (by decide +kernel), h2, hi, decide_true]
structure GoodD (d : D) : Prop where
  tup : ∃ ds, d = .tup ds
  eq : eqO d d = .ok (.bl true)
  ne : neO d d = .ok (.bl false)
theorem GoodD.of {ds : List D} (h : treeB 4 (.tup ds) = true) : GoodD (.tup ds) := ⟨⟨_, rfl⟩, eqO_self h (by decide), neO_self h (by decide)⟩
theorem treeB_txts {l : List Str} (h : ∀ s ∈ l, okS s = true) (n : Nat) : (txts l).all (treeB (n + 1)) = true := List.all_eq_true.mpr fun d hd => by
  obtain ⟨s, hs, rfl⟩ := List.mem_map.mp hd
  exact h s hs
theorem RdW.good {ws : List Str} {d : D} (h : RdW ws (some d)) (ho : ∀ s ∈ ws, okS s = true) : GoodD d ∧ m__law_is_fact [d] = .ok (.bl true) := by
  have gen : ∀ (w : Str) (rs : List (List Str)), okS w = true → rs ≠ [] → (∀ r ∈ rs, runB r = true ∧ ∀ s ∈ r, okS s = true) → GoodD (factD w rs) ∧ m__law_is_fact [factD w rs] = .ok (.bl true) := fun w rs hw hn hr => by
    refine ⟨GoodD.of ?_, law_is_fact_ok (List.length_pos_iff.mpr hn) fun r hm e => ?_⟩
    · show (D.str w :: rs.map fun r => .tup (txts r)).all (treeB 3) = true
      rw [List.all_cons]
      refine Bool.and_eq_true_iff.mpr ⟨hw, List.all_eq_true.mpr fun d hd => ?_⟩
      obtain ⟨r, hm, rfl⟩ := List.mem_map.mp hd
      show (txts r).all (treeB 2) = true
      exact treeB_txts (hr r hm).2 1
    · have := (hr r hm).1
      rw [e] at this
      cases this
  generalize ho' : (some d : Option D) = o at h
  cases h with
  | @one w r hw =>
    cases q : runB r with
    | false => rw [q, if_neg Bool.false_ne_true] at ho'; cases ho'
    | true =>
      rw [q, if_pos rfl] at ho'
      cases ho'
      exact gen w [r] (ho w (by simp)) (by simp) fun r' hr => by
        rw [List.mem_singleton.mp hr]
        exact ⟨q, fun s hs => ho s (by simp [hs])⟩
  | @two w a b hw ha hb =>
    cases q : (runB a && runB b) with
    | false => rw [q, if_neg Bool.false_ne_true] at ho'; cases ho'
    | true =>
      rw [q, if_pos rfl] at ho'
      cases ho'
      obtain ⟨q1, q2⟩ := Bool.and_eq_true_iff.mp q
      exact gen w [a, b] (ho w (by simp)) (by simp) fun r' hr => by
        simp only [List.mem_cons, List.not_mem_nil, or_false] at hr
        rcases hr with rfl | rfl
        · exact ⟨q1, fun s hs => ho s (by simp [hs])⟩
        · exact ⟨q2, fun s hs => ho s (by simp [hs])⟩
  | twoN => cases ho'
  | no => cases ho'
theorem law_one_fact {t : Str} (ht : TxO t) {o : Option D} (h : RdW (Txt.split t " ") o) : m__law_one [.str t, orN o, .bl false] = .ok (.bl true) := by
  have hr := read_fact_x ht h
  refine m_ok ?_
  unfold b__law_one
  cases o with
  | none =>
    rw [ansD_n] at hr
    have hq := refused_line_ok 1
    rw [seq_eq]
    refine Sat.rseq (Sat.tri ?_)
    simp_arith [hr, orN, isNon]
    rw [hnd_yes (by rfl)]
    simp_arith [isNon, hq]
  | some d =>
    rw [ansD_s] at hr
    obtain ⟨⟨⟨ds, rfl⟩, he, _⟩, hi⟩ := h.good fun s hs => (ht.part hs).ok
    rw [seq_eq]
    refine Sat.rseq (Sat.tri ?_)
    simp_arith [hr, orN, isNon, hi, he]
theorem law_one_run {t : Str} (ht : TxO t) : m__law_one [.str t, orN (runO t), .bl true] = .ok (.bl true) := by
  have hr := read_run_x ht
  refine m_ok ?_
  unfold b__law_one
  cases q : runO t with
  | none =>
    rw [q, ansD_n] at hr
    have hq := refused_line_ok 1
    rw [seq_eq]
    refine Sat.rseq (Sat.tri ?_)
    simp_arith [hr, orN, isNon]
    rw [hnd_yes (by rfl)]
    simp_arith [isNon, hq]
  | some d =>
    rw [q, ansD_s] at hr
    have hd : d = .tup (txts (Txt.split t " ")) := by
      unfold runO at q
      split at q
      · exact (Option.some.inj q).symm
      · cases q
    subst hd
    have hi := law_is_run_txts _ (split_ne t " ")
    have he := (GoodD.of (ds := txts (Txt.split t " ")) (treeB_txts (fun s hs => (ht.part hs).ok) 2)).eq
    rw [seq_eq]
    refine Sat.rseq (Sat.tri ?_)
    simp_arith [hr, orN, isNon, hi, he]

end
section
abbrev LnX := Str × Option (Option D)
def LnRd (x : LnX) : Prop := match x.2 with
  | none => TL.tl x.1 = [] ∨ (TL.tl x.1)[0]? = some 35
  | some o => (∃ c r, TL.tl x.1 = c :: r ∧ c ≠ 35) ∧ RdW (Txt.split x.1 " ") o
structure LnOk (x : LnX) : Prop where
  tx : TxO x.1
  rd : LnRd x
theorem ln_all : ∀ l : List Str, (∀ s ∈ l, TxO s) → ∃ xs : List LnX, xs.map (·.1) = l ∧ ∀ x ∈ xs, LnOk x
  | [], _ => ⟨[], rfl, by simp⟩
  | s :: l, h => by
    obtain ⟨xs, e, hx⟩ := ln_all l fun t ht => h t (by simp [ht])
    have hs := h s (by simp)
    have hy : ∃ y, LnOk (s, y) := by
      obtain ⟨o, ho⟩ := rd_all (Txt.split s " ") (split_ne s " ")
      cases q : TL.tl s with
      | nil => exact ⟨none, hs, .inl q⟩
      | cons c r =>
        by_cases e : c = 35
        · exact ⟨none, hs, .inr (by show (TL.tl s)[0]? = _; rw [q, e]; rfl)⟩
        · exact ⟨some o, hs, ⟨c, r, q, e⟩, ho⟩
    obtain ⟨y, hy⟩ := hy
    refine ⟨(s, y) :: xs, by rw [List.map_cons, e], fun x hm => ?_⟩
    rcases List.mem_cons.mp hm with rfl | hm
    · exact hy
    · exact hx x hm
def duesL (xs : List LnX) : List D := (xs.filterMap (·.2)).map orN
def badsL : List LnX → Nat → List Nat
  | [], _ => []
  | (_, some none) :: r, k => (k + 1) :: badsL r (k + 1)
  | _ :: r, k => badsL r (k + 1)
theorem bads_app : ∀ (xs ys : List LnX) (k : Nat), badsL (xs ++ ys) k = badsL xs k ++ badsL ys (k + xs.length)
  | [], ys, k => rfl
  | (s, none) :: xs, ys, k => by
    show badsL (xs ++ ys) (k + 1) = badsL xs (k + 1) ++ _
    rw [bads_app xs ys (k + 1), List.length_cons, show k + 1 + xs.length = k + (xs.length + 1) by omega]
  | (s, some none) :: xs, ys, k => by
    show (k + 1) :: badsL (xs ++ ys) (k + 1) = (k + 1) :: badsL xs (k + 1) ++ _
    rw [bads_app xs ys (k + 1), List.length_cons, show k + 1 + xs.length = k + (xs.length + 1) by omega, List.cons_append]
  | (s, some (some d)) :: xs, ys, k => by
    show badsL (xs ++ ys) (k + 1) = badsL xs (k + 1) ++ _
    rw [bads_app xs ys (k + 1), List.length_cons, show k + 1 + xs.length = k + (xs.length + 1) by omega]
theorem dues_app (xs ys : List LnX) : duesL (xs ++ ys) = duesL xs ++ duesL ys := by unfold duesL; rw [List.filterMap_append, List.map_append]
theorem dues_len (xs : List LnX) : (duesL xs).length ≤ xs.length := by
  unfold duesL
  rw [List.length_map]
  exact List.length_filterMap_le _ _
theorem bads_len : ∀ (xs : List LnX) (k : Nat), (badsL xs k).length ≤ xs.length
  | [], _ => Nat.le_refl _
  | (s, none) :: xs, k => Nat.le_succ_of_le (bads_len xs (k + 1))
  | (s, some none) :: xs, k => Nat.succ_le_succ (bads_len xs (k + 1))
  | (s, some (some d)) :: xs, k => Nat.le_succ_of_le (bads_len xs (k + 1))
abbrev nD (l : List Nat) : List D := l.map fun k : Nat => .int (k : Int)
theorem nD_tree (l : List Nat) : (nD l).all (treeB 2) = true := List.all_eq_true.mpr fun d hd => by
  obtain ⟨k, _, rfl⟩ := List.mem_map.mp hd
  rfl
theorem LnOk.ne {l : Str} {o : Option D} (h : LnOk (l, some o)) : neO (.str l) (.str "") = .ok (.bl true) ∧ startsD l (.str "#") = .ok (.bl false) ∧ ∃ c, strGet l 0 = .ok (.str ⟨#[c]⟩) ∧ neO (.str ⟨#[c]⟩) (.str "#") = .ok (.bl true) := by
  obtain ⟨⟨c, r, h3, h4⟩, _⟩ : (∃ c r, TL.tl l = c :: r ∧ c ≠ 35) ∧ RdW (Txt.split l " ") o := h.rd
  have n1 : neO (.str l) (.str "") = .ok (.bl (!decide (l = ""))) := neO_str h.tx.ok ok_nil
  have ne : ¬ l = "" := fun z => by rw [nil_tl.mp z] at h3; cases h3
  rw [decide_eq_false ne] at n1
  refine ⟨n1, ?_, c, ?_, ?_⟩
  · show Res.ok (D.bl (Txt.startswith l "#")) = _
    rw [starts_hash, h3]
    simp [h4]
  · have hl : 0 < l.length := by
      show 0 < l.cps.toList.length
      rw [show l.cps.toList = c :: r from h3]; simp
    obtain ⟨c', h1, h2⟩ := @strGet_of l 0 (le_line (by have : l.length ≤ 900000 := h.tx.len; omega)) hl
    rw [show l.cps.toList = c :: r from h3] at h1
    cases h1
    exact h2
  · have hc : c < 0x110000 := okS_in h.tx.ok c (by rw [h3]; simp)
    have := neO_str (okS_one hc) (show okS ("#" : Str) = true by decide +kernel)
    rw [this, decide_eq_false]
    · rfl
    · intro e
      have e2 : ("#" : Str) = ⟨#[35]⟩ := str_ext (by decide +kernel)
      rw [e2] at e
      injection e with e
      have := congrArg (fun a : Array Nat => a[0]?) e
      simp at this
      exact h4 this
theorem take_skip_x {l : Str} (h : LnOk (l, none)) (ds : List D) (n : Int) : b_take [.sh (.str l), .ow (.lst ds), .sh (.int n)] = .nx [.sh (.str l), .ow (.lst ds), .sh (.int n)] := by
  have n1 : neO (.str l) (.str "") = .ok (.bl (!decide (l = ""))) := neO_str h.tx.ok ok_nil
  have s1 : startsD l (.str "#") = .ok (.bl (decide ((TL.tl l)[0]? = some 35))) := by
    show Res.ok (D.bl (Txt.startswith l "#")) = _
    rw [starts_hash]
  have sk : TL.tl l = [] ∨ (TL.tl l)[0]? = some 35 := h.rd
  unfold b_take
  rcases sk with e | e
  · have e : l = "" := nil_tl.mpr e
    subst e
    simp_arith [n1, s1, decide_true]
  · have ne : ¬ l = "" := fun z => by rw [nil_tl.mp z] at e; cases e
    simp_arith [n1, s1, e, ne, decide_true, decide_false]
theorem take_some_x {l : Str} {d : D} (h : LnOk (l, some (some d))) (ds : List D) (n : Int) (hd : ds.length < 1000000) : b_take [.sh (.str l), .ow (.lst ds), .sh (.int n)] = .nx [.sh (.str l), .ow (.lst (ds ++ [d])), .sh (.int n)] := by
  obtain ⟨n1, s1, _⟩ := h.ne
  have hr : RdW (Txt.split l " ") (some d) := (show _ ∧ _ from h.rd).2
  have hf := fact_of_x h.tx hr n
  rw [ansD_s] at hf
  have hs : ds.length < sizeLine := by have := le_line (show ds.length + 1 ≤ 1000000 by omega); omega
  unfold b_take
  simp_arith [n1, s1, hf]
  exact if_pos hs
theorem take_none_x {l : Str} (h : LnOk (l, some none)) (ds : List D) (n : Int) : b_take [.sh (.str l), .ow (.lst ds), .sh (.int n)] = .xc "BadLine" [(("line" : Str), D.int n)] [.sh (.str l), .ow (.lst ds), .sh (.int n)] := by
  obtain ⟨n1, s1, _⟩ := h.ne
  have hr : RdW (Txt.split l " ") none := (show _ ∧ _ from h.rd).2
  have hf := fact_of_x h.tx hr n
  rw [ansD_n] at hf
  have hr : ∀ c fs env, rApp 1 (some (.ow (.lst ds))) (.exc c fs) env = .xc c fs env := fun _ _ _ => rfl
  unfold b_take
  simp_arith [n1, s1, hf, hr]
def ansB (xs : List LnX) (ds : List D) (n : Nat) : Res (List D) := match badsL xs n with
  | [] => .ok (ds ++ duesL xs)
  | b :: _ => .exc "BadLine" [(("line" : Str), D.int (b : Int))]
theorem takeL_x : ∀ (xs : List LnX) (ds : List D) (n : Nat), (∀ x ∈ xs, LnOk x) → ds.length + xs.length ≤ 1000000 → takeL b_take (xs.map fun x => .str x.1) ds (n : Int) = ansB xs ds n
  | [], ds, n, _, _ => by simp [takeL, ansB, badsL, duesL]
  | (l, none) :: xs, ds, n, h, hl => by
    have e := take_skip_x (h (l, none) (List.mem_cons_self ..)) ds ((n : Int) + 1)
    rw [List.length_cons] at hl
    show takeL b_take (.str l :: xs.map fun x => D.str x.1) ds n = _
    unfold takeL
    rw [e]
    exact takeL_x xs ds (n + 1) (fun x hx => h x (List.mem_cons_of_mem _ hx)) (by omega)
  | (l, some none) :: xs, ds, n, h, hl => by
    have e := take_none_x (h (l, some none) (List.mem_cons_self ..)) ds ((n : Int) + 1)
    show takeL b_take (.str l :: xs.map fun x => D.str x.1) ds n = _
    unfold takeL
    rw [e]
    rfl
  | (l, some (some d)) :: xs, ds, n, h, hl => by
    rw [List.length_cons] at hl
    have e := take_some_x (h (l, some (some d)) (List.mem_cons_self ..)) ds ((n : Int) + 1) (by omega)
    show takeL b_take (.str l :: xs.map fun x => D.str x.1) ds n = _
    unfold takeL
    rw [e]
    have q := takeL_x xs (ds ++ [d]) (n + 1) (fun x hx => h x (List.mem_cons_of_mem _ hx)) (by rw [List.length_append, List.length_singleton]; omega)
    show takeL b_take (xs.map fun x => .str x.1) (ds ++ [d]) ((n : Int) + 1) = _
    rw [show ((n : Int) + 1) = ((n + 1 : Nat) : Int) by omega, q]
    unfold ansB
    show (match badsL xs (n + 1) with | [] => _ | b :: _ => _) = (match badsL xs (n + 1) with | [] => _ | b :: _ => _)
    rw [List.append_assoc]
    rfl
theorem same_x (ds : List D) (h : ∀ d ∈ ds, GoodD d ∧ m__law_is_fact [d] = .ok (.bl true)) (hn : ds.length ≤ 1000000) : m__law_same_facts [.lst ds, .lst ds] = .ok (.bl true) := by
  refine m_ok ?_
  unfold b__law_same_facts
  have it : isT "list" (.lst ds) = .ok (.bl true) := rfl
  simp_arith [it, neO_int, decide_true]
  refine Sat.rseq (Sat.forS0 (fun env => ∃ x, env = [.sh (.lst ds), .sh (.lst ds), x]) (ds := rangeD 0 ds.length) (by simp_arith []; exact range1_nat (by omega)) ⟨_, rfl⟩ ?_ ?_)
  · rintro d hd env ⟨x, rfl⟩
    obtain ⟨i, hi, rfl⟩ := rangeD_mem hd
    refine ⟨_, rfl, ?_⟩
    have gi : ds[i]? = some (ds[i]'hi) := List.getElem?_eq_getElem hi
    generalize ds[i]'hi = f at gi
    obtain ⟨hf, hi⟩ := h f (List.mem_of_getElem? gi)
    have g1 : seqGet ds (i : Int) = .ok f := seqGet_of gi
    have ei : (0 : Int) + (i : Int) = (i : Int) := by omega
    simp_arith [ei, g1, hi, hf.ne]
    exact ⟨_, rfl⟩
  · rintro env ⟨x, rfl⟩
    simp_arith []
theorem read_book_x {t : Str} (ht : t.length ≤ 900000) {xs : List LnX} (he : xs.map (·.1) = Txt.split t "\n") (h : ∀ x ∈ xs, LnOk x) (hl : xs.length ≤ 900002) :
    m_read_book [.str t] = (ansB xs [] 0).bind fun ds => .ok (.lst ds) := by
  show bookM b_take [.str t] = _
  unfold bookM
  show (if t.length + 2 ≤ sizeLine then _ else _) = _
  rw [if_pos (by have := le_line (show t.length + 2 ≤ 1000000 by omega); omega), ← he, List.map_map]
  have q := takeL_x xs [] 0 h (by simp; omega)
  rw [← q]
  rfl
theorem law_all_ok {t : Str} (ht : TxO t) : m__law_all [.str t] = .ok (.bl true) := by
  obtain ⟨xs, he, hx⟩ := ln_all (Txt.split t "\n") fun s hs => ht.part hs
  have hlen : xs.length ≤ 900002 := by
    have := congrArg List.length he
    rw [List.length_map] at this
    have := split_few (y := "\n") ht
    omega
  have hb := read_book_x ht.len he hx hlen
  have hs : splitD t (.str "\n") = .ok (.lst (txts (xs.map (·.1)))) := by rw [he]; exact splitD_x ht (by decide +kernel)
  have hg : ∀ (i : Nat) (x : LnX), xs[i]? = some x → seqGet (txts (xs.map (·.1))) (i : Int) = .ok (.str x.1) := fun i x q => txts_get (by rw [List.getElem?_map, q]; rfl)
  have hn : lenF [.lst (txts (xs.map (·.1)))] = .ok (.int (xs.length : Int)) := by rw [len_lst, txts_len, List.length_map]
  generalize txts (xs.map (·.1)) = L at hs hg hn
  refine m_ok ?_
  unfold b__law_all
  have l0 : lstD [] = .ok (.lst []) := lst_nil
  rw [seq_eq]
  simp only [ownS_eq, aE_eq, nilA_eq, env0, List.map_cons, List.map_nil, List.cons_append, List.nil_append, List.length_cons, List.length_nil, List.replicate, Nat.reduceSub, Nat.reduceAdd, rC_ok, r1_ok, l0, rOwn_ok, rSeq_nx, sz_, ss_]
  rw [seq_eq]
  simp only [ownS_eq, aE_eq, nilA_eq, r1_ok, l0, rOwn_ok, rSeq_nx, sz_, ss_]
  rw [seq_eq]
  simp only [setS_eq, strE_eq, getP_eq, cE_eq, rGet_ok, rStr_ok, hs, rSet_ok, rSeq_nx, sz_, ss_, gz_, gs_]
  rw [seq_eq]
  refine Sat.rseq ?_
  let I : Nat → Env → Prop := fun i env => ∃ x4 x7 : Sl, env = [.sh (.str t), .ow (.lst (duesL (xs.take i))), .ow (.lst (nD (badsL (xs.take i) 0))), .sh (.lst L), x4, .no, .no, x7]
  with_reducible refine Sat.forS I (ds := rangeD 0 xs.length) ?_ ?_ ?_ ?_
  · simp_arith [hn]
    exact range1_nat (by omega)
  · exact ⟨_, _, rfl⟩
  · rintro i d env hd ⟨x4, x7, rfl⟩
    obtain ⟨hi, rfl⟩ := rangeD_get hd
    refine ⟨_, rfl, ?_⟩
    have gi : xs[i]? = some (xs[i]'hi) := List.getElem?_eq_getElem hi
    have et : xs.take (i + 1) = xs.take i ++ [xs[i]'hi] := by rw [List.take_add_one, gi]; rfl
    have tl : (xs.take i).length = i := by rw [List.length_take]; omega
    generalize xs[i]'hi = x at gi et
    have ho := hx x (List.mem_of_getElem? gi)
    have g1 := hg i x gi
    have ei : (0 : Int) + (i : Int) = (i : Int) := by omega
    have eb : badsL (xs.take (i + 1)) 0 = badsL (xs.take i) 0 ++ badsL [x] i := by rw [et, bads_app, tl, Nat.zero_add]
    have ed : duesL (xs.take (i + 1)) = duesL (xs.take i) ++ duesL [x] := by rw [et, dues_app]
    have s1 : (duesL (xs.take i)).length < sizeLine := by
      have := dues_len (xs.take i)
      have := le_line (show (duesL (xs.take i)).length + 1 ≤ 1000000 by omega); omega
    have s2 : (nD (badsL (xs.take i) 0)).length < sizeLine := by
      have := bads_len (xs.take i) 0
      rw [List.length_map]
      have := le_line (show (badsL (xs.take i) 0).length + 1 ≤ 1000000 by omega); omega
    show Sat _ (_ : SRes)
    suffices hI : ∀ x7' : Sl, I (i + 1) [.sh (.str t), .ow (.lst (duesL (xs.take i) ++ duesL [x])), .ow (.lst (nD (badsL (xs.take i) 0) ++ nD (badsL [x] i))), .sh (.lst L), .sh (.int (i : Int)), .no, .no, x7'] by
      generalize duesL (xs.take i) = A at s1 hI ⊢
      generalize nD (badsL (xs.take i) 0) = B at s2 hI ⊢
      obtain ⟨l, o⟩ := x
      cases o with
      | none =>
        have hI : ∀ x7' : Sl, I (i + 1) [.sh (.str t), .ow (.lst (A ++ [])), .ow (.lst (B ++ [])), .sh (.lst L), .sh (.int (i : Int)), .no, .no, x7'] := hI
        rw [List.append_nil, List.append_nil] at hI
        have n1 : neO (.str l) (.str "") = .ok (.bl (!decide (l = ""))) := neO_str ho.tx.ok ok_nil
        have sk : TL.tl l = [] ∨ (TL.tl l)[0]? = some 35 := ho.rd
        by_cases e : l = ""
        · rw [decide_eq_true e] at n1
          simp_arith [ei, g1, n1]
          exact hI _
        · rcases sk with z | z
          · exact absurd (nil_tl.mpr z) e
          · rw [decide_eq_false e] at n1
            have hl0 : 0 < l.length := by
              show 0 < l.cps.toList.length
              rcases List.getElem?_eq_some_iff.mp z with ⟨z1, _⟩
              exact z1
            obtain ⟨c', h1, h2⟩ := @strGet_of l 0 (le_line (by have : l.length ≤ 900000 := ho.tx.len; omega)) hl0
            have hc' : c' = 35 := by
              have := h1.symm.trans (show l.cps.toList[0]? = some 35 from z)
              exact Option.some.inj this
            subst hc'
            have e2 : (⟨#[35]⟩ : Str) = "#" := str_ext (by decide +kernel)
            rw [e2] at h2
            have n2 : neO (.str "#") (.str "#") = .ok (.bl false) := by
              have := neO_str (show okS ("#" : Str) = true by decide +kernel) (show okS ("#" : Str) = true by decide +kernel)
              rw [this, decide_eq_true rfl]
              rfl
            have h2 : strGet l 0 = .ok (.str "#") := h2
            simp_arith [ei, g1, n1, h2, n2]
            exact hI _
      | some o =>
        obtain ⟨n1, _, c, h2, n2⟩ := ho.ne
        have hr : RdW (Txt.split l " ") o := (show _ ∧ _ from ho.rd).2
        have hf := law_read_fact_x ho.tx hr
        cases o with
        | none =>
          have hI : ∀ x7' : Sl, I (i + 1) [.sh (.str t), .ow (.lst (A ++ [.non])), .ow (.lst (B ++ [.int ((i + 1 : Nat) : Int)])), .sh (.lst L), .sh (.int (i : Int)), .no, .no, x7'] := hI
          have hf : m__law_read_fact [.str l] = .ok .non := hf
          have e1 : ((i : Int) + 1) = ((i + 1 : Nat) : Int) := by omega
          simp_arith [ei, g1, n1, h2, n2, hf, isNon, if_pos s1, if_pos s2, e1]
          exact hI _
        | some d =>
          have hI : ∀ x7' : Sl, I (i + 1) [.sh (.str t), .ow (.lst (A ++ [d])), .ow (.lst (B ++ [])), .sh (.lst L), .sh (.int (i : Int)), .no, .no, x7'] := hI
          rw [List.append_nil] at hI
          obtain ⟨⟨⟨ds, rfl⟩, _, _⟩, _⟩ := hr.good fun s hs => (ho.tx.part hs).ok
          have hf : m__law_read_fact [.str l] = .ok (.tup ds) := hf
          simp_arith [ei, g1, n1, h2, n2, hf, isNon, if_pos s1]
          exact hI _
    intro x7'
    refine ⟨.sh (.int (i : Int)), x7', ?_⟩
    rw [ed, eb]
    unfold nD
    rw [List.map_append]
  · rintro env ⟨x4, x7, rfl⟩
    rw [rangeD_len, List.take_of_length_le (Nat.le_refl _)]
    rw [thn_nx, seq_eq]
    have nb := ne_nil (nD_tree (badsL xs 0))
    refine Sat.rseq (Sat.tri ?_)
    have hb' := hb
    unfold ansB at hb'
    cases q : badsL xs 0 with
    | nil =>
      rw [q] at hb' nb
      have hb' : m_read_book [.str t] = .ok (.lst (duesL xs)) := hb'
      have good : ∀ (ys : List LnX) (k : Nat), badsL ys k = [] → (∀ y ∈ ys, LnOk y) → ∀ d ∈ duesL ys, GoodD d ∧ m__law_is_fact [d] = .ok (.bl true) := by
        intro ys
        induction ys with
        | nil => intro k _ _ d hd; cases hd
        | cons y ys ih =>
          obtain ⟨l, o⟩ := y
          intro k hk hy d hd
          have h2 : ∀ y ∈ ys, LnOk y := fun y hm => hy y (List.mem_cons_of_mem _ hm)
          match o with
          | none => exact ih (k + 1) hk h2 d hd
          | some none => cases hk
          | some (some e) =>
            have hd : d ∈ e :: duesL ys := hd
            rcases List.mem_cons.mp hd with rfl | hd
            · have ho := hy (l, some (some d)) (List.mem_cons_self ..)
              have hr : RdW (Txt.split l " ") (some d) := (show _ ∧ _ from ho.rd).2
              exact hr.good fun s hs => (ho.tx.part hs).ok
            · exact ih (k + 1) hk h2 d hd
      have hsf := same_x (duesL xs) (good xs 0 q hx) (by have := dues_len xs; omega)
      have nb : neO (.lst []) (.lst []) = .ok (.bl false) ∧ eqO (.lst []) (.lst []) = .ok (.bl true) := nb
      have iu : immut (.bl true) = true := rfl
      simp_arith [hb', nb.2, hsf, l0, nD]
      rw [if_pos iu, rRet_ok]
      exact rfl
    | cons b B =>
      rw [q] at hb' nb
      have hb' : m_read_book [.str t] = .exc "BadLine" [(("line" : Str), D.int (b : Int))] := hb'
      have nb : neO (.lst (.int (b : Int) :: B.map fun k : Nat => .int (k : Int))) (.lst []) = .ok (.bl true) := nb.1
      have hq := refused_line_ok (b : Int)
      have g0 : seqGet (.int (b : Int) :: B.map fun k : Nat => .int (k : Int)) 0 = .ok (.int (b : Int)) := @seqGet_of _ 0 _ rfl
      show Sat _ (_ : SRes)
      simp_arith [hb']
      rw [hnd_yes (by rfl)]
      simp_arith [l0, nb, g0, hq]

end
section
structure AscT (t : Str) (n : Nat) : Prop where
  asc : ∀ c ∈ TL.tl t, c < 128
  len : t.length ≤ n
theorem AscT.ok {t : Str} {n : Nat} (h : AscT t n) : okS t = true := okS_of fun c hc => by have := h.asc c hc; omega
theorem AscT.tx {t : Str} {n : Nat} (h : AscT t n) (hn : n ≤ 900000) : TxO t := ⟨h.ok, Nat.le_trans h.len hn⟩
theorem AscT.mono {t : Str} {n m : Nat} (h : AscT t n) (hn : n ≤ m) : AscT t m := ⟨h.asc, Nat.le_trans h.len hn⟩
theorem AscT.app {s t : Str} {n m : Nat} (h : AscT s n) (g : AscT t m) : AscT (s ++ t) (n + m) := ⟨fun c hc => by
  rw [tl_app] at hc
  rcases List.mem_append.mp hc with hc | hc
  · exact h.asc c hc
  · exact g.asc c hc, by rw [str_app_len]; have := h.len; have := g.len; omega⟩
theorem cutS_le (z : Str) (l u : Option Int) : (cutS z l u).length ≤ z.length := by
  show (cutS z l u).cps.toList.length ≤ z.cps.toList.length
  rw [cut_toList]
  exact Nat.le_trans (List.length_take_le' _ _) (by rw [List.length_drop]; omega)
theorem AscT.cut {t : Str} {n : Nat} (h : AscT t n) (l u : Option Int) : AscT (cutS t l u) n := ⟨fun c hc => h.asc c (mem_cut hc), Nat.le_trans (cutS_le t l u) h.len⟩
theorem AscT.one {c : Nat} (h : c < 128) : AscT ⟨#[c]⟩ 1 := ⟨fun d hd => by
  have : d = c := by simpa using (show d ∈ [c] from hd)
  omega, by rw [str_sing]; exact Nat.le_refl _⟩
theorem AscT.up {t : Str} {n : Nat} (h : AscT t n) : AscT (Txt.upper t) n := by
  have e := PyProof.Rows.upper_ascii h.asc
  rw [e]
  refine ⟨fun c hc => ?_, ?_⟩
  · have hc : c ∈ (t.cps.map PyProof.Rows.up1).toList := hc
    rw [Array.toList_map] at hc
    obtain ⟨d, hd, rfl⟩ := List.mem_map.mp hc
    have := h.asc d hd
    unfold PyProof.Rows.up1
    split <;> omega
  · show (t.cps.map PyProof.Rows.up1).size ≤ n
    rw [Array.size_map]
    exact h.len
theorem low_asc {c : Nat} (h : c ∈ lowL ∨ c ∈ digL) : c < 128 := by
  have h1 : ∀ c ∈ lowL, c < 128 := by decide +kernel
  have h2 : ∀ c ∈ digL, c < 128 := by decide +kernel
  exact h.elim (h1 c) (h2 c)
theorem RunL.asc {l : List Str} (h : RunL l) : ∀ s ∈ l, AscT s 13 := by
  intro t ht
  refine ⟨?_, (h.it t ht).len⟩
  obtain ⟨s, r, rfl, h1, h2⟩ := h.ex
  rcases List.mem_cons.mp ht with rfl | ht
  · exact fun c hc => low_asc ((namL_mem h1).2.2 c hc)
  · obtain ⟨c, r, e, hc, hn, _, _⟩ := step_parts (h2 t ht)
    have et : TL.tl t = c :: r := e
    intro z hz
    rw [et] at hz
    rcases List.mem_cons.mp hz with rfl | hz
    · rcases hc with rfl | rfl <;> decide
    · exact low_asc ((namL_mem hn).2.2 z hz)
theorem asc_sp : AscT " " 1 := ⟨by decide +kernel, by decide +kernel⟩
theorem asc_eq : AscT " =" 2 := ⟨by decide +kernel, by decide +kernel⟩
theorem asc_eq3 : AscT " = " 3 := ⟨by decide +kernel, by decide +kernel⟩
theorem asc_nl : AscT "\n" 1 := ⟨by decide +kernel, by decide +kernel⟩
theorem asc_nil : AscT "" 0 := ⟨by decide +kernel, by decide +kernel⟩
theorem add_asc {s t : Str} {n m : Nat} (h : AscT s n) (g : AscT t m) (hn : n + m ≤ 1000000) : addD (.str s) (.str t) = .ok (.str (s ++ t)) := add_str (le_line (by have := h.len; have := g.len; omega))
theorem sl_asc {s : Str} {n : Nat} (h : AscT s n) (hn : n ≤ 1000000) (l u : Option Int) : sliceD (.str s) l u = .ok (.str (cutS s l u)) := sl_str (le_line (Nat.le_trans h.len hn))
theorem word_asc {w : Str} (hw : oneK w ∨ twoK w) : AscT w 5 := by
  rcases hw with (rfl | rfl) | (rfl | rfl) <;> exact ⟨by decide +kernel, by decide +kernel⟩
theorem law_text_x {w : Str} {rs : List (List Str)} (hw : AscT w 5) (hn : rs.length ≤ 2) (hr : ∀ r ∈ rs, RunL r ∧ r.length ≤ 6) : ∃ t, m__law_text [factD w rs] = .ok (.str t) ∧ AscT t 400 := by
  have key : ∃ d, m__law_text [factD w rs] = .ok d ∧ ∃ t, d = .str t ∧ AscT t 400 := by
    refine m_ex ?_
    unfold b__law_text
    have g0 : getD (factD w rs) (.int 0) = .ok (.str w) := by
      show getD (D.tup (D.str w :: rs.map fun r => .tup (txts r))) (.int 0) = _
      rw [get_tup]
      exact @seqGet_of _ 0 _ rfl
    have hsl : sliceD (factD w rs) (some 1) none = .ok (.tup (rs.map fun r => .tup (txts r))) := by
      show sliceD (D.tup (D.str w :: rs.map fun r => .tup (txts r))) (some 1) none = _
      rw [sl_tup, fact_cut]
    generalize factD w rs = F at g0 hsl ⊢
    rw [seq_eq]
    simp only [setS_eq, op2_eq, getP_eq, cE_eq, env0, List.map_cons, List.map_nil, List.cons_append, List.nil_append, List.length_cons, List.length_nil, List.replicate, Nat.reduceSub, gz_, rGet_ok, r2_ok, g0, rSet_ok, rSeq_nx, sz_, ss_]
    rw [seq_eq]
    refine Sat.rseq ?_
    let I : Nat → Env → Prop := fun i env => ∃ (t : Str) (x y : Sl), env = [.sh F, .sh (.str t), x, y] ∧ AscT t (5 + i * 150)
    with_reducible refine Sat.forS I (ds := rs.map fun r => .tup (txts r)) ?_ ?_ ?_ ?_
    · simp_arith [hsl]
    · exact ⟨w, _, _, rfl, hw⟩
    · rintro i d env hd ⟨t, x, y, rfl, ht⟩
      rw [List.getElem?_map] at hd
      obtain ⟨r, gr, rfl⟩ := Option.map_eq_some_iff.mp hd
      have hi : i < rs.length := (List.getElem?_eq_some_iff.mp gr).1
      obtain ⟨h1, h2⟩ := hr r (List.mem_of_getElem? gr)
      refine ⟨_, rfl, ?_⟩
      rw [seq_eq]
      refine Sat.rseq ?_
      let J : Nat → Env → Prop := fun j env => ∃ (t : Str) (y : Sl), env = [.sh F, .sh (.str t), .sh (.tup (txts r)), y] ∧ AscT t (5 + i * 150 + j * 14)
      with_reducible refine Sat.forS J (ds := txts r) ?_ ?_ ?_ ?_
      · simp_arith []
      · exact ⟨t, y, rfl, by rw [Nat.zero_mul, Nat.add_zero]; exact ht⟩
      · rintro j d env hd ⟨t, y, rfl, ht⟩
        unfold txts at hd
        rw [List.getElem?_map] at hd
        obtain ⟨s, gs, rfl⟩ := Option.map_eq_some_iff.mp hd
        have hj : j < r.length := (List.getElem?_eq_some_iff.mp gs).1
        have hs := h1.asc s (List.mem_of_getElem? gs)
        refine ⟨_, rfl, ?_⟩
        have a1 := add_asc ht asc_sp (by omega)
        have q1 := ht.app asc_sp
        have a2 := add_asc q1 hs (by omega)
        have q2 := q1.app hs
        simp_arith [a1, a2]
        exact ⟨_, _, rfl, q2.mono (by omega)⟩
      · rintro env ⟨t, y, rfl, ht⟩
        rw [txts_len] at ht
        have a1 := add_asc ht asc_eq (by omega)
        simp_arith [a1]
        exact ⟨_, _, _, rfl, (ht.app asc_eq).mono (by omega)⟩
    · rintro env ⟨t, x, y, rfl, ht⟩
      rw [List.length_map] at ht
      have s1 := sl_asc ht (by omega) none (some (-2))
      simp_arith [s1]
      exact ⟨_, rfl, (ht.cut _ _).mono (by omega)⟩
  obtain ⟨d, h1, t, rfl, h2⟩ := key
  exact ⟨t, h1, h2⟩
theorem up_ok {φ : Env → Res D} {env : Env} {a : Str} (e : φ env = .ok (.str a)) (h : a.length ≤ 5592405) : upperE φ env = .ok (.str (Txt.upper a)) := by
  unfold upperE
  rw [e]
  exact if_pos h
def spW : List Str := "going" ::
  "Goes" ::
  "alike" ::
  "goes" ::
  "apart" ::
  "#" :: []
theorem spW_asc : ∀ s ∈ spW, AscT s 5 := by
  have h : ∀ s ∈ spW, (∀ c ∈ TL.tl s, c < 128) ∧ decide (s.length ≤ 5) = true := by decide +kernel
  exact fun s hs => ⟨(h s hs).1, of_decide_eq_true (h s hs).2⟩
theorem spoilt_text_x (ns : List Int) (k : Nat) (hk : k < 2 ^ 58) {t : Str} (ht : AscT t 1000) : ∃ t', m__law_spoilt_text [.scr ns, .int (k : Int), .str t] = .ok (.str t') ∧ AscT t' 2100 := by
  have key : ∃ d, m__law_spoilt_text [.scr ns, .int (k : Int), .str t] = .ok d ∧ ∃ t', d = .str t' ∧ AscT t' 2100 := by
    refine m_ex ?_
    unfold b__law_spoilt_text
    have dn : ∀ j : Nat, j < 1000 → m__law_draw [.scr ns, .int (k : Int), .int (j : Int)] = .ok (.int (dr ns k j)) := fun j hj => draw_nn ns k j (by omega) (by omega)
    have d0 : m__law_draw [.scr ns, .int (k : Int), .int 70] = .ok (.int (dr ns k 70)) := dn 70 (by decide)
    have d1 : m__law_draw [.scr ns, .int (k : Int), .int 71] = .ok (.int (dr ns k 71)) := dn 71 (by decide)
    have d2 : m__law_draw [.scr ns, .int (k : Int), .int 72] = .ok (.int (dr ns k 72)) := dn 72 (by decide)
    have d3 : m__law_draw [.scr ns, .int (k : Int), .int 73] = .ok (.int (dr ns k 73)) := dn 73 (by decide)
    obtain ⟨c, hc1, hc2⟩ := char_ok (dr ns k 72)
    have li : lenF [.str t] = .ok (.int (t.length : Int)) := len_str (le_line (by have := ht.len; omega))
    have hpos : (0 : Int) < (t.length : Int) + 1 := by omega
    have hc := AscT.one hc2
    have h1 : findD t (.str " ") = .ok (.int (Txt.find t " ")) := rfl
    have cc := fun l u => ht.cut l u
    have sl := fun l u => sl_asc ht (by omega) l u
    rw [seq_eq]
    simp only [setS_eq, op2_eq, aE_eq, consA_eq, nilA_eq, env0, getP_eq, cE_eq, List.map_cons, List.map_nil, List.cons_append, List.nil_append, List.length_cons, List.length_nil, List.replicate, Nat.reduceSub, Nat.reduceAdd, gz_, gs_, rGet_ok, rC_ok, r1_ok, d0, r2_ok, mod_int (show (0 : Int) < 14 by decide), rSet_ok, rSeq_nx, sz_, ss_]
    rw [seq_eq]
    simp only [setS_eq, op2_eq, aE_eq, consA_eq, nilA_eq, getP_eq, cE_eq, gz_, gs_, rGet_ok, rC_ok, r1_ok, d1, li, r2_ok, add_int, mod_int hpos, rSet_ok, rSeq_nx, sz_, ss_]
    rw [seq_eq]
    simp only [setS_eq, aE_eq, consA_eq, nilA_eq, getP_eq, cE_eq, gz_, gs_, rGet_ok, rC_ok, r1_ok, d2, hc1, rSet_ok, rSeq_nx, sz_, ss_]
    rw [seq_eq]
    simp only [setS_eq, strE_eq, getP_eq, cE_eq, gz_, gs_, rGet_ok, rStr_ok, h1, rSet_ok, rSeq_nx, sz_, ss_]
    generalize dr ns k 70 % 14 = mode
    generalize dr ns k 71 % ((t.length : Int) + 1) = a
    generalize Txt.find t " " = f
    have aA := add_asc (cc none (some a)) asc_sp (by omega)
    have aB := add_asc ((cc none (some a)).app asc_sp) (cc (some a) none) (by omega)
    have aC := add_asc (cc none (some a)) hc (by omega)
    have aD := add_asc ((cc none (some a)).app hc) (cc (some a) none) (by omega)
    have aE' := add_asc ((cc none (some a)).app hc) (cc (some (a + 1)) none) (by omega)
    have aF := add_asc (cc none (some a)) (cc (some (a + 1)) none) (by omega)
    have aG := add_asc ht asc_sp (by omega)
    have aH := add_asc asc_sp ht (by omega)
    have aI' := add_asc (cc none (some f)) asc_sp (by omega)
    have aJ := add_asc ((cc none (some f)).app asc_sp) (cc (some f) none) (by omega)
    have aK := add_asc ht asc_eq3 (by omega)
    have aL := add_asc (ht.app asc_eq3) ht (by omega)
    have aM := add_asc ht asc_nl (by omega)
    rw [seq_eq]
    simp only [ifS_eq, tE_eq, op2_eq, getP_eq, gz_, gs_, rGet_ok, cE_eq, r2_ok, eqO_int, r1_ok, toB_ok]
    refine Sat.rseq (Sat.ifP (fun _ => ?_) (fun _ => ?_))
    · simp_arith [sl, aA, aB]
      exact ⟨_, rfl, (((cc _ _).app asc_sp).app (cc _ _)).mono (by omega)⟩
    simp only [nxS_eq, Sat_nx, thn_nx]
    rw [seq_eq]
    simp only [ifS_eq, tE_eq, op2_eq, getP_eq, gz_, gs_, rGet_ok, cE_eq, r2_ok, eqO_int, r1_ok, toB_ok]
    refine Sat.rseq (Sat.ifP (fun _ => ?_) (fun _ => ?_))
    · simp_arith [sl, aC, aD]
      exact ⟨_, rfl, (((cc _ _).app hc).app (cc _ _)).mono (by omega)⟩
    simp only [nxS_eq, Sat_nx, thn_nx]
    rw [seq_eq]
    simp only [ifS_eq, tE_eq, op2_eq, getP_eq, gz_, gs_, rGet_ok, cE_eq, r2_ok, eqO_int, r1_ok, toB_ok]
    refine Sat.rseq (Sat.ifP (fun _ => ?_) (fun _ => ?_))
    · simp_arith [sl, aF]
      exact ⟨_, rfl, ((cc _ _).app (cc _ _)).mono (by omega)⟩
    simp only [nxS_eq, Sat_nx, thn_nx]
    rw [seq_eq]
    simp only [ifS_eq, tE_eq, op2_eq, getP_eq, gz_, gs_, rGet_ok, cE_eq, r2_ok, eqO_int, r1_ok, toB_ok]
    refine Sat.rseq (Sat.ifP (fun _ => ?_) (fun _ => ?_))
    · simp_arith [sl, aC, aE']
      exact ⟨_, rfl, (((cc _ _).app hc).app (cc _ _)).mono (by omega)⟩
    simp only [nxS_eq, Sat_nx, thn_nx]
    rw [seq_eq]
    simp only [ifS_eq, tE_eq, op2_eq, getP_eq, gz_, gs_, rGet_ok, cE_eq, r2_ok, eqO_int, r1_ok, toB_ok]
    refine Sat.rseq (Sat.ifP (fun _ => ?_) (fun _ => ?_))
    · simp_arith [aG]
      exact ⟨_, rfl, (ht.app asc_sp).mono (by omega)⟩
    simp only [nxS_eq, Sat_nx, thn_nx]
    rw [seq_eq]
    simp only [ifS_eq, tE_eq, op2_eq, getP_eq, gz_, gs_, rGet_ok, cE_eq, r2_ok, eqO_int, r1_ok, toB_ok]
    refine Sat.rseq (Sat.ifP (fun _ => ?_) (fun _ => ?_))
    · simp_arith [aH]
      exact ⟨_, rfl, (asc_sp.app ht).mono (by omega)⟩
    simp only [nxS_eq, Sat_nx, thn_nx]
    rw [seq_eq]
    simp only [ifS_eq, andT_eq, tE_eq, op2_eq, getP_eq, gz_, gs_, rGet_ok, cE_eq, r1_ok, r2_ok, eqO_int, ge_int, toB_ok, rAnd_ok]
    refine Sat.rseq (Sat.ifb (fun _ => ?_) (fun _ => ?_))
    · simp_arith [sl, aI', aJ]
      exact ⟨_, rfl, (((cc _ _).app asc_sp).app (cc _ _)).mono (by omega)⟩
    simp only [nxS_eq, Sat_nx, thn_nx]
    rw [seq_eq]
    simp only [ifS_eq, tE_eq, op2_eq, getP_eq, gz_, gs_, rGet_ok, cE_eq, r2_ok, eqO_int, r1_ok, toB_ok]
    refine Sat.rseq (Sat.ifP (fun _ => ?_) (fun _ => ?_))
    · simp_arith [aK, aL]
      exact ⟨_, rfl, ((ht.app asc_eq3).app ht).mono (by omega)⟩
    simp only [nxS_eq, Sat_nx, thn_nx]
    rw [seq_eq]
    simp only [ifS_eq, tE_eq, op2_eq, getP_eq, gz_, gs_, rGet_ok, cE_eq, r2_ok, eqO_int, r1_ok, toB_ok]
    refine Sat.rseq (Sat.ifP (fun _ => ?_) (fun _ => ?_))
    · simp_arith []
      exact ⟨_, rfl, asc_nil.mono (by omega)⟩
    simp only [nxS_eq, Sat_nx, thn_nx]
    rw [seq_eq]
    simp only [ifS_eq, andT_eq, tE_eq, op2_eq, getP_eq, gz_, gs_, rGet_ok, cE_eq, r1_ok, r2_ok, eqO_int, ge_int, toB_ok, rAnd_ok]
    refine Sat.rseq (Sat.ifb (fun _ => ?_) (fun _ => ?_))
    · obtain ⟨d, p1, p2⟩ := pick_seq (spW.map D.str) 6 (by decide) (by decide) (dr ns k 73)
      obtain ⟨o, ho, rfl⟩ := List.mem_map.mp p2
      have p1' : seqGet [D.str "going",
        .str "Goes",
        .str "alike",
        .str "goes",
        .str "apart",
        .str "#"] (dr ns k 73 % 6) = .ok (.str o) := p1
      have aN := add_asc (spW_asc o ho) (cc (some f) none) (by omega)
      simp_arith [sl, d3, mod_int (show (0 : Int) < 6 by decide), p1', aN]
      exact ⟨_, rfl, ((spW_asc o ho).app (cc _ _)).mono (by omega)⟩
    simp only [nxS_eq, Sat_nx, thn_nx]
    rw [seq_eq]
    simp only [ifS_eq, tE_eq, op2_eq, getP_eq, gz_, gs_, rGet_ok, cE_eq, r2_ok, eqO_int, r1_ok, toB_ok]
    refine Sat.rseq (Sat.ifP (fun _ => ?_) (fun _ => ?_))
    · rw [retS_eq, up_ok (a := t) (by simp_arith []) (by have := ht.len; omega), rRet_ok]
      exact ⟨_, rfl, ht.up.mono (by omega)⟩
    simp only [nxS_eq, Sat_nx, thn_nx]
    rw [seq_eq]
    simp only [ifS_eq, tE_eq, op2_eq, getP_eq, gz_, gs_, rGet_ok, cE_eq, r2_ok, eqO_int, r1_ok, toB_ok]
    refine Sat.rseq (Sat.ifP (fun _ => ?_) (fun _ => ?_))
    · simp_arith [aM]
      exact ⟨_, rfl, (ht.app asc_nl).mono (by omega)⟩
    simp_arith []
    exact ⟨_, rfl, ht.mono (by omega)⟩
  obtain ⟨d, h1, t', rfl, h2⟩ := key
  exact ⟨t', h1, h2⟩

end
section
theorem m_law_ok : ∀ ns : List Int, ns.length ≤ 63 → (∀ z ∈ ns, Builtin.Int.intBits z ≤ 1048576) → m_law [.scr ns] = .ok (.bl true) := by
  intro ns _ _
  refine m_ok ?_
  unfold b_law
  have d02 : m__law_draw [.scr ns, .int 0, .int 2] = .ok (.int (dr ns 0 2)) := draw_nn ns 0 2 (by decide) (by decide)
  obtain ⟨n1, e1, a1, b1⟩ := many_ex ns 0 (by decide)
  obtain ⟨n2, e2, a2, b2⟩ := many_ex ns 1 (by decide)
  have e1' : m__law_many [.scr ns, .int 0] = .ok (.int (n1 : Int)) := e1
  have e2' : m__law_many [.scr ns, .int 1] = .ok (.int (n2 : Int)) := e2
  obtain ⟨ps, hp1, hp2, hp3⟩ := names_ex ns 1 n1 (by decide) (by omega)
  obtain ⟨ss, hs1, hs2, hs3⟩ := names_ex ns 2 n2 (by decide) (by omega)
  have hp1' : m__law_names [.scr ns, .int 1, .int (n1 : Int)] = .ok (.lst (txts ps)) := hp1
  have hs1' : m__law_names [.scr ns, .int 2, .int (n2 : Int)] = .ok (.lst (txts ss)) := hs1
  have hpn : ps ≠ [] := by intro h; rw [h] at hp2; simp at hp2; omega
  have hsn : ss ≠ [] := by intro h; rw [h] at hs2; simp at hs2; omega
  have fx : ∀ k : Nat, k < 1000 → ∃ (w : Str) (rs : List (List Str)), m__law_raw_fact [.scr ns, .int (k : Int), .lst (txts ss), .lst (txts ps), .int 5] = .ok (factD w rs) ∧ (oneK w ∨ twoK w) ∧ (∃ b rs', rs = b :: rs') ∧ rs.length ≤ 2 ∧ ∀ r ∈ rs, RunL r ∧ r.length ≤ 6 := fun k hk => by
    obtain ⟨w, rs, hf, hkk, hrs⟩ := raw_fact_ex ns k 5 (by omega) (by decide) ss ps hsn hpn hs3 hp3
    refine ⟨w, rs, hf, hkk.imp (·.1) (·.1), ?_, ?_, fun r hr => ⟨(hrs r hr).1, (hrs r hr).2.1⟩⟩
    · rcases hkk with ⟨_, e⟩ | ⟨_, e⟩
      · match rs, e with
        | [b], _ => exact ⟨b, [], rfl⟩
      · match rs, e with
        | [b, c], _ => exact ⟨b, [c], rfl⟩
    · rcases hkk with ⟨_, e⟩ | ⟨_, e⟩ <;> omega
  obtain ⟨w, rs, hf, hw, ⟨b, rs', erb⟩, hrl, hrr⟩ := fx 3 (by decide)
  have hf' : m__law_raw_fact [.scr ns, .int 3, .lst (txts ss), .lst (txts ps), .int 5] = .ok (factD w rs) := hf
  obtain ⟨T0, ht0, at0⟩ := law_text_x (word_asc hw) hrl hrr
  obtain ⟨T, hT, aT⟩ := spoilt_text_x ns 4 (by decide) (at0.mono (by decide))
  have hT' : m__law_spoilt_text [.scr ns, .int 4, .str T0] = .ok (.str T) := hT
  have hb := hrr b (by rw [erb]; exact List.mem_cons_self ..)
  have g1 : getD (factD w rs) (.int 1) = .ok (.tup (txts b)) := by
    rw [erb]
    show getD (D.tup (D.str w :: D.tup (txts b) :: rs'.map fun r => .tup (txts r))) (.int 1) = _
    rw [get_tup]; exact @seqGet_of _ 1 _ rfl
  have t2 : tupD [.str "goes", .tup (txts b)] = .ok (factD "goes" [b]) := tup_ok (le_line (show 2 ≤ 1000000 by decide))
  obtain ⟨L0, hl0, al0⟩ := law_text_x (w := "goes") (rs := [b]) (word_asc (.inl (.inl rfl))) (Nat.le_succ 1) (fun r hr => by rw [List.mem_singleton.mp hr]; exact hb)
  have hl0 : m__law_text [.tup [.str "goes", .tup (txts b)]] = .ok (.str L0) := hl0
  have sl0 := sl_asc al0 (by decide) (some 5) none
  obtain ⟨L, hL, aL⟩ := spoilt_text_x ns 5 (by decide) ((al0.cut (some 5) none).mono (by decide))
  have hL' : m__law_spoilt_text [.scr ns, .int 5, .str (cutS L0 (some 5) none)] = .ok (.str L) := hL
  have xT : TxO T := aT.tx (by decide)
  have xL : TxO L := aL.tx (by decide)
  have hsp : splitD L (.str " ") = .ok (.lst (txts (Txt.split L " "))) := splitD_x xL (by decide +kernel)
  have htu : tupleF [.lst (txts (Txt.split L " "))] = .ok (.tup (txts (Txt.split L " "))) := rfl
  have hgr := law_is_good_run_ok (Txt.split L " ") (fun s hs => by have := (xL.part hs).len; omega) (fun s hs => (xL.part hs).ok)
  simp_arith [e1', hp1', e2', hs1', hf', ht0, hT', g1, t2, hl0, sl0, hL', hsp, htu]
  have hro : ∀ x : Bool, runB (Txt.split L " ") = x → orN (runO L) = if x = true then .tup (txts (Txt.split L " ")) else .non := fun x q => by
    unfold runO
    rw [q]
    cases x <;> rfl
  have hone := law_one_run xL
  have h6 : (0 : Int) < 6 := by decide
  have m0 := Int.emod_nonneg (dr ns 0 2) (show (6 : Int) ≠ 0 by decide)
  have m1 := Int.emod_lt_of_pos (dr ns 0 2) h6
  have rest : Sat { rt := fun x => x = D.bl true } (
      (fun ψ : Env → SRes => ψ [.sh (.scr ns), .sh (.lst (txts ps)), .sh (.lst (txts ss)), .sh (factD w rs), .sh (.str T), .sh (.str L), .sh (orN (runO L)), .no, .no, .no, .no, .no])
      (seqS (ownS 7 (aE lstD nilA))
  (seqS (forS (gnG 8) (aI range1 (consA (op2 modD (aE m__law_draw (consA (getP 0) (consA (cE (.int 0)) (consA (cE (.int 2)) nilA)))) (cE (.int 6))) nilA)) (seqS (setS 11 (aE m__law_text (consA (aE m__law_raw_fact (consA (getP 0) (consA (op2 addD (cE (.int 6)) (getP 8)) (consA (getP 2) (consA (getP 1) (consA (cE (.int 5)) nilA)))))) nilA)))
  (seqS (ifS (tE (op2 eqO (op2 modD (aE m__law_draw (consA (getP 0) (consA (op2 addD (cE (.int 20)) (getP 8)) (consA (cE (.int 74)) nilA)))) (cE (.int 2))) (cE (.int 1)))) (setS 11 (aE m__law_spoilt_text (consA (getP 0) (consA (op2 addD (cE (.int 20)) (getP 8)) (consA (getP 11) nilA))))) nxS)
  (appS 7 (getP 11)))))
  (seqS (setS 9 (strE joinD (cE (.str "\n")) (getB 7)))
  (seqS (forS (gnG 10) (aI range1 (consA (cE (.int 2)) nilA)) (ifS (orT (notT (tE (aE m__law_one (consA (getP 4) (consA (aE m__law_read_fact (consA (getP 4) nilA)) (consA (cE (.bl false)) nilA)))))) (orT (notT (tE (aE m__law_one (consA (getP 5) (consA (getP 6) (consA (cE (.bl true)) nilA)))))) (notT (tE (aE m__law_all (consA (getP 9) nilA)))))) (retS (cE (.bl false))) nxS))
  (retS (cE (.bl true)))))))) := by
    show Sat _ (seqS _ _ _)
    generalize orN (runO L) = R at hone ⊢
    generalize factD w rs = F
    rw [seq_eq]
    simp only [ownS_eq, aE_eq, nilA_eq, rC_ok, r1_ok, lst_nil, rOwn_ok, rSeq_nx, sz_, ss_]
    rw [seq_eq]
    refine Sat.rseq ?_
    let I : Nat → Env → Prop := fun i env => ∃ (ls : List Str) (x8 x11 : Sl), env = [.sh (.scr ns), .sh (.lst (txts ps)), .sh (.lst (txts ss)), .sh F, .sh (.str T), .sh (.str L), .sh R, .ow (.lst (txts ls)), x8, .no, .no, x11] ∧ ls.length = i ∧ ∀ s ∈ ls, AscT s 2100
    with_reducible refine Sat.forS I (ds := rangeD 0 (dr ns 0 2 % 6).toNat) ?_ ?_ ?_ ?_
    · simp_arith [d02, mod_int h6]
      exact range1_ok (by omega)
    · exact ⟨[], _, _, rfl, rfl, fun s hs => by cases hs⟩
    · rintro i d env hd ⟨ls, x8, x11, rfl, hli, hls⟩
      obtain ⟨hi, rfl⟩ := rangeD_get hd
      refine ⟨_, rfl, ?_⟩
      have ei : (0 : Int) + (i : Int) = (i : Int) := by omega
      have e6 : (6 : Int) + (i : Int) = ((6 + i : Nat) : Int) := by omega
      have e20 : (20 : Int) + (i : Int) = ((20 + i : Nat) : Int) := by omega
      obtain ⟨w, rs, hf, hw, _, hrl, hrr⟩ := fx (6 + i) (by omega)
      obtain ⟨t, ht, at_⟩ := law_text_x (word_asc hw) hrl hrr
      have d74 : m__law_draw [.scr ns, .int ((20 + i : Nat) : Int), .int 74] = .ok (.int (dr ns ((20 + i : Nat) : Int) 74)) := draw_nn ns (20 + i) 74 (by omega) (by decide)
      obtain ⟨t', ht', at'⟩ := spoilt_text_x ns (20 + i) (by omega) (at_.mono (by decide))
      have hs : (txts ls).length < sizeLine := by rw [txts_len]; have := le_line (show ls.length + 1 ≤ 1000000 by omega); omega
      have fin : ∀ (s : Str) (x8 : Sl), AscT s 2100 → I (i + 1) [.sh (.scr ns), .sh (.lst (txts ps)), .sh (.lst (txts ss)), .sh F, .sh (.str T), .sh (.str L), .sh R, .ow (.lst (txts ls ++ [.str s])), x8, .no, .no, .sh (.str s)] := fun s x8 h => by
        refine ⟨ls ++ [s], _, _, by rw [txts_app]; rfl, by rw [List.length_append, List.length_singleton, hli], fun z hz => ?_⟩
        rcases List.mem_append.mp hz with hz | hz
        · exact hls z hz
        · rw [List.mem_singleton.mp hz]; exact h
      rw [seq_eq]
      simp_arith [ei, e6, hf, ht]
      simp only [e20, d74, r2_ok, mod_int (show (0 : Int) < 2 by decide), eqO_int, r1_ok, toB_ok]
      refine Sat.rseq (Sat.ifP (fun _ => ?_) (fun _ => ?_))
      · simp_arith [ei, e20, ht', if_pos hs]
        exact fin t' _ at'
      · simp_arith [if_pos hs]
        exact fin t _ (at_.mono (by decide))
    · rintro env ⟨ls, x8, x11, rfl, hli, hls⟩
      rw [rangeD_len] at hli
      have hl5 : ls.length ≤ 6 := by omega
      have n1 : ("\n" : Str).length = 1 := by decide +kernel
      have hb2 : ls.length * 2100 ≤ 6 * 2100 := Nat.mul_le_mul_right _ hl5
      have hj : joinD "\n" (.lst (txts ls)) = .ok (.str (Txt.join "\n" ls)) := joinS_ok (k := 2100) (fun s hs => (hls s hs).len) (by rw [n1]; omega)
      have xW : TxO (Txt.join "\n" ls) := ⟨join_ok _ (by decide +kernel) fun s hs => (hls s hs).ok, by
        have := join_len "\n" (l := ls) (k := 2100) fun s hs => (hls s hs).len
        rw [n1] at this
        omega⟩
      have hall := law_all_ok xW
      generalize Txt.join "\n" ls = W at hj hall
      obtain ⟨o, ho⟩ := rd_all (Txt.split T " ") (split_ne T " ")
      have hrf := law_read_fact_x xT ho
      have hon := law_one_fact xT ho
      rw [thn_nx, seq_eq]
      simp only [setS_eq, strE_eq, cE_eq, getB_eq, gz_, gs_, rGetB_ow, rStr_ok, hj, rSet_ok, rSeq_nx, sz_, ss_]
      rw [seq_eq]
      refine Sat.rseq (Sat.forS0 (fun env => ∃ x, env = [.sh (.scr ns), .sh (.lst (txts ps)), .sh (.lst (txts ss)), .sh F, .sh (.str T), .sh (.str L), .sh R, .ow (.lst (txts ls)), x8, .sh (.str W), x, x11]) (ds := rangeD 0 2) ?_ ⟨_, rfl⟩ ?_ ?_)
      · simp_arith []
        exact range1_ok (by decide)
      · rintro d hd env ⟨x, rfl⟩
        refine ⟨_, rfl, ?_⟩
        simp_arith [hrf, hon, hone, hall]
        exact ⟨_, rfl⟩
      · rintro env ⟨x, rfl⟩
        simp_arith []
  cases q : runB (Txt.split L " ") with
  | true =>
    have e := hro true q
    rw [if_pos rfl] at e
    rw [q] at hgr
    rw [e] at rest
    simp only [r1_ok, hgr, toB_ok, rNot_ok, Bool.not_true, rIf_f, nxS_eq, rSeq_nx]
    exact rest
  | false =>
    have e := hro false q
    rw [if_neg Bool.false_ne_true] at e
    rw [q] at hgr
    rw [e] at rest
    simp only [r1_ok, hgr, toB_ok, rNot_ok, Bool.not_false, rIf_t, setS_eq, cE_eq, rSet_ok, rSeq_nx, sz_, ss_]
    exact rest

end
end VL
namespace VL
open PySem L2
structure Blt (mg : Str → Option Value) : Prop where
  int : mg "int" = none
  len : mg "len" = none
  range : mg "range" = none
  isinstance : mg "isinstance" = none
  tuple : mg "tuple" = none
  str : mg "str" = none
  bool : mg "bool" = none
  ValueError : mg "ValueError" = none
  list : mg "list" = none
section
variable {P : Program} {w : World} {K : PySem.W.Frag} {mg : Str → Option Value} {base : Heap}
abbrev N__law_draw : List Str := ["_law_script", "_law_k", "_law_j", "_law_cell", "_law_first", "_law_second", "_law_rest", "_law_turn"]
theorem sc__law_draw : FnScope N__law_draw ["_law_script", "_law_k", "_law_j"] (defScope s__law_draw) := ⟨rfl, rfl, rfl, by decide +kernel, rfl, by decide +kernel, by decide +kernel⟩
set_option maxHeartbeats 4000000 in
theorem v__law_draw (B : Blt mg) (R : Raw K mg "_law_draw" s__law_draw ["_law_script", "_law_k", "_law_j"]) : DefOk P w K mg base "_law_draw" 1 ["_law_script", "_law_k", "_law_j"] 3 m__law_draw := by
  have nd := sc__law_draw.nd
  refine def_v N__law_draw b__law_draw R sc__law_draw rfl rfl (fun f cdv A outer s H E hr tk po => ?_)
  exact (vb_cons (vs_if (vt_cmp (fla := true) (flb := true) (op_eqD hr.units) (nomark _) of_eq (ve_v 0) (ve_lst va_nil)) (vb_one (vs_ret ve_int)) vb_nil)
      (vb_cons (vs_set 3 nd (ve_ty (fla := true) call_int1 cf_int B.int (by decide +kernel) (va_cons (ve_ix (flb := true) (ru1 hr) (ve_v 0) (ve_op (fla := true) (flb := true) op_mod of_mod (ve_ty (fla := true) call_int1 cf_int B.int (by decide +kernel) (va_cons (ve_v 1) va_nil)) (ve_bi (fla := true) call_len cf_len B.len PySem.boot_len (va_cons (ve_v 0) va_nil)))) va_nil)))
      (vb_cons (vs_if (vt_w (vw_and (vt_cmp (fla := true) (flb := true) op_lt (nomark _) of_lt (ve_v 1) (ve_bi (fla := true) call_len cf_len B.len PySem.boot_len (va_cons (ve_v 0) va_nil))) (vw_and1 (vt_cmp (fla := true) (flb := true) op_ge (nomark _) of_ge (ve_v 3) (ve_op (fla := true) (flb := true) op_pow of_pow ve_int ve_int))))) (vb_cons (vs_set 6 nd (ve_v 3))
      (vb_cons (vs_for po rfl (vi_range1 (fl := true) B.range (va_cons (ve_v 2) va_nil)) (vg_n 7 nd) (vb_one (vs_set 6 nd (ve_op (fla := true) (flb := true) op_fdiv of_fdiv (ve_v 6) ve_int))))
      (vb_one (vs_if (vt_cmp (fla := true) (flb := true) op_gt (nomark _) of_gt (ve_v 6) ve_int) (vb_one (vs_ret (ve_op (fla := true) (flb := true) op_mod of_mod (ve_ty (fla := true) call_int1 cf_int B.int (by decide +kernel) (va_cons (ve_v 6) va_nil)) ve_int))) vb_nil)))) vb_nil)
      (vb_cons (vs_set 4 nd (ve_op (fla := true) (flb := true) op_mod of_mod (ve_ty (fla := true) call_int1 cf_int B.int (by decide +kernel) (va_cons (ve_op op_addA of_add (ve_op op_addA of_add (ve_op op_addA of_add (ve_op (flb := true) op_mulA of_mul (ve_op (fla := true) (flb := true) op_mod of_mod (ve_ty (fla := true) call_int1 cf_int B.int (by decide +kernel) (va_cons (ve_v 3) va_nil)) ve_int) ve_int) (ve_op (flb := true) op_mulA of_mul (ve_v 1) ve_int)) (ve_op (flb := true) op_mulA of_mul (ve_v 2) ve_int)) ve_int) va_nil)) ve_int))
      (vb_cons (vs_set 5 nd (ve_op (fla := true) (flb := true) op_mod of_mod (ve_ty (fla := true) call_int1 cf_int B.int (by decide +kernel) (va_cons (ve_op op_addA of_add (ve_op op_addA of_add (ve_op op_addA of_add (ve_op op_addA of_add (ve_op (flb := true) op_mulA of_mul (ve_op (fla := true) (flb := true) op_mod of_mod (ve_ty (fla := true) call_int1 cf_int B.int (by decide +kernel) (va_cons (ve_v 4) va_nil)) ve_int) ve_int) (ve_op (flb := true) op_mulA of_mul (ve_op (fla := true) (flb := true) op_fdiv of_fdiv (ve_v 4) ve_int) ve_int)) (ve_op (flb := true) op_mulA of_mul (ve_v 2) ve_int)) (ve_op (flb := true) op_mulA of_mul (ve_v 1) ve_int)) ve_int) va_nil)) ve_int))
      (vb_one (vs_ret (ve_op (fla := true) (flb := true) op_mod of_mod (ve_ty (fla := true) call_int1 cf_int B.int (by decide +kernel) (va_cons (ve_op (fla := true) (flb := true) op_fdiv of_fdiv (ve_v 5) ve_int) va_nil)) ve_int))))))))
abbrev N__law_names : List Str := ["_law_script", "_law_k", "_law_many_here", "_law_letters", "_law_mode", "_law_base", "_law_size", "_law_place", "_law_names_here", "_law_at", "_law_shift", "_law_name"]
theorem sc__law_names : FnScope N__law_names ["_law_script", "_law_k", "_law_many_here"] (defScope s__law_names) := ⟨rfl, rfl, rfl, by decide +kernel, rfl, by decide +kernel, by decide +kernel⟩
set_option maxHeartbeats 4000000 in
theorem v__law_names (B : Blt mg) (R : Raw K mg "_law_names" s__law_names ["_law_script", "_law_k", "_law_many_here"]) (d__law_draw : DefOk P w K mg base "_law_draw" 1 ["_law_script", "_law_k", "_law_j"] 3 m__law_draw) : DefOk P w K mg base "_law_names" 2 ["_law_script", "_law_k", "_law_many_here"] 3 m__law_names := by
  have nd := sc__law_names.nd
  refine def_v N__law_names b__law_names R sc__law_names rfl rfl (fun f cdv A outer s H E hr tk po => ?_)
  exact (vb_cons (vs_set 3 nd ve_str)
      (vb_cons (vs_set 4 nd (ve_op (fla := true) (flb := true) op_mod of_mod (ve_def d__law_draw tk (hr.mono (by decide)) (va_cons (ve_v 0) (va_cons (ve_v 1) (va_cons ve_int va_nil))) rfl (la_cons (la_cons (la_cons la_nil)))) ve_int))
      (vb_cons (vs_set 5 nd (ve_op op_addA of_add ve_str (ve_join (fla := true) (flb := true) ve_str (ve_new (vf_lc (own := [("_law_at", 9)]) rfl nd (vi_range1 (fl := true) B.range (va_cons ve_int va_nil)) (blkOk_by (N := N__law_names) (sc := defScope s__law_names) (by decide +kernel)) (fun _ _ _ _ _ => (vgc_n 9 (by decide) nd)) (fun _ _ _ _ _ => vts_nil) (fun _ _ _ _ _ => (ve_ix (flb := true) (ru1 hr) (ve_v 3) (ve_op (fla := true) (flb := true) op_mod of_mod (ve_def d__law_draw tkW0 (hr.mono (by decide)) (va_cons (ve_v 0) (va_cons (ve_v 1) (va_cons (ve_op op_addA of_add ve_int (ve_v 9)) va_nil))) rfl (la_cons (la_cons (la_cons la_nil)))) ve_int))))))))
      (vb_cons (vs_set 6 nd (ve_op op_addA of_add ve_int (ve_op (fla := true) (flb := true) op_mod of_mod (ve_def d__law_draw tk (hr.mono (by decide)) (va_cons (ve_v 0) (va_cons (ve_v 1) (va_cons ve_int va_nil))) rfl (la_cons (la_cons (la_cons la_nil)))) ve_int)))
      (vb_cons (vs_set 7 nd (ve_op (fla := true) (flb := true) op_mod of_mod (ve_def d__law_draw tk (hr.mono (by decide)) (va_cons (ve_v 0) (va_cons (ve_v 1) (va_cons ve_int va_nil))) rfl (la_cons (la_cons (la_cons la_nil)))) (ve_v 6)))
      (vb_cons (vs_own 8 nd (vf_lst va_nil))
      (vb_cons (vs_for po rfl (vi_range1 (fl := true) B.range (va_cons (ve_v 2) va_nil)) (vg_n 9 nd) (vb_cons (vs_set 10 nd (ve_def d__law_draw tk (hr.mono (by decide)) (va_cons (ve_v 0) (va_cons (ve_v 1) (va_cons (ve_op op_addA of_add ve_int (ve_v 9)) va_nil))) rfl (la_cons (la_cons (la_cons la_nil)))))
      (vb_cons (vs_set 11 nd (ve_op op_addA of_add (ve_ix (flb := true) (ru1 hr) (ve_v 3) (ve_op (fla := true) (flb := true) op_mod of_mod (ve_v 10) ve_int)) (ve_sl (ve_v 5) (vo_some (fl := true) ve_int) (vo_some (fl := true) (ve_op op_addA of_add ve_int (ve_op (fla := true) (flb := true) op_mod of_mod (ve_op (fla := true) (flb := true) op_fdiv of_fdiv (ve_v 10) ve_int) ve_int))))))
      (vb_cons (vs_if (vt_cmp (fla := true) (flb := true) (op_eqD hr.units) (nomark _) of_eq (ve_v 4) ve_int) (vb_one (vs_set 11 nd (ve_ix (flb := true) (ru1 hr) ve_str (ve_v 9)))) vb_nil)
      (vb_cons (vs_if (vt_cmp (fla := true) (flb := true) (op_eqD hr.units) (nomark _) of_eq (ve_v 4) ve_int) (vb_one (vs_set 11 nd (ve_op op_addA of_add (ve_op op_addA of_add (ve_sl (ve_v 5) vo_none (vo_some (fl := true) (ve_v 7))) (ve_ix (flb := true) (ru1 hr) (ve_v 3) (ve_op (fla := true) (flb := true) op_mod of_mod (ve_ty (fla := true) call_int1 cf_int B.int (by decide +kernel) (va_cons (ve_op op_addA of_add (ve_v 10) (ve_v 9)) va_nil)) ve_int))) (ve_sl (ve_v 5) (vo_some (fl := true) (ve_op op_addA of_add (ve_v 7) ve_int)) (vo_some (fl := true) (ve_v 6)))))) vb_nil)
      (vb_one (vs_app 8 (ve_v 11))))))))
      (vb_one (vs_give 8 (vs_ret (ve_v 8)))))))))))
abbrev N__law_raw_run : List Str := ["_law_script", "_law_k", "_law_j", "_law_starts", "_law_patches", "_law_most", "_law_run", "_law_turn", "_law_draw_here"]
theorem sc__law_raw_run : FnScope N__law_raw_run ["_law_script", "_law_k", "_law_j", "_law_starts", "_law_patches", "_law_most"] (defScope s__law_raw_run) := ⟨rfl, rfl, rfl, by decide +kernel, rfl, by decide +kernel, by decide +kernel⟩
set_option maxHeartbeats 4000000 in
theorem v__law_raw_run (B : Blt mg) (R : Raw K mg "_law_raw_run" s__law_raw_run ["_law_script", "_law_k", "_law_j", "_law_starts", "_law_patches", "_law_most"]) (d__law_draw : DefOk P w K mg base "_law_draw" 1 ["_law_script", "_law_k", "_law_j"] 3 m__law_draw) : DefOk P w K mg base "_law_raw_run" 2 ["_law_script", "_law_k", "_law_j", "_law_starts", "_law_patches", "_law_most"] 6 m__law_raw_run := by
  have nd := sc__law_raw_run.nd
  refine def_v N__law_raw_run b__law_raw_run R sc__law_raw_run rfl rfl (fun f cdv A outer s H E hr tk po => ?_)
  exact (vb_cons (vs_set 6 nd (ve_tup (va_cons (ve_ix (flb := true) (ru1 hr) (ve_v 3) (ve_op (fla := true) (flb := true) op_mod of_mod (ve_def d__law_draw tk (hr.mono (by decide)) (va_cons (ve_v 0) (va_cons (ve_v 1) (va_cons (ve_v 2) va_nil))) rfl (la_cons (la_cons (la_cons la_nil)))) (ve_bi (fla := true) call_len cf_len B.len PySem.boot_len (va_cons (ve_v 3) va_nil)))) va_nil)))
      (vb_cons (vs_for po rfl (vi_range1 (fl := true) B.range (va_cons (ve_op (fla := true) (flb := true) op_mod of_mod (ve_def d__law_draw tk (hr.mono (by decide)) (va_cons (ve_v 0) (va_cons (ve_v 1) (va_cons (ve_op op_addA of_add (ve_v 2) ve_int) va_nil))) rfl (la_cons (la_cons (la_cons la_nil)))) (ve_op op_addA of_add (ve_v 5) ve_int)) va_nil)) (vg_n 7 nd) (vb_cons (vs_set 8 nd (ve_def d__law_draw tk (hr.mono (by decide)) (va_cons (ve_v 0) (va_cons (ve_v 1) (va_cons (ve_op op_addA of_add (ve_op op_addA of_add (ve_v 2) ve_int) (ve_v 7)) va_nil))) rfl (la_cons (la_cons (la_cons la_nil)))))
      (vb_one (vs_set 6 nd (ve_op op_addA of_add (ve_v 6) (ve_tup (va_cons (ve_op op_addA of_add (ve_ix (flb := true) (ru1 hr) (ve_lst (va_cons ve_str (va_cons ve_str va_nil))) (ve_op (fla := true) (flb := true) op_mod of_mod (ve_v 8) ve_int)) (ve_ix (flb := true) (ru1 hr) (ve_v 4) (ve_op (fla := true) (flb := true) op_mod of_mod (ve_op (fla := true) (flb := true) op_fdiv of_fdiv (ve_v 8) ve_int) (ve_bi (fla := true) call_len cf_len B.len PySem.boot_len (va_cons (ve_v 4) va_nil))))) va_nil)))))))
      (vb_one (vs_ret (ve_v 6)))))
abbrev N__law_raw_fact : List Str := ["_law_script", "_law_k", "_law_starts", "_law_patches", "_law_most", "_law_word", "_law_first"]
theorem sc__law_raw_fact : FnScope N__law_raw_fact ["_law_script", "_law_k", "_law_starts", "_law_patches", "_law_most"] (defScope s__law_raw_fact) := ⟨rfl, rfl, rfl, by decide +kernel, rfl, by decide +kernel, by decide +kernel⟩
set_option maxHeartbeats 4000000 in
theorem v__law_raw_fact (B : Blt mg) (R : Raw K mg "_law_raw_fact" s__law_raw_fact ["_law_script", "_law_k", "_law_starts", "_law_patches", "_law_most"]) (d__law_draw : DefOk P w K mg base "_law_draw" 1 ["_law_script", "_law_k", "_law_j"] 3 m__law_draw) (d__law_raw_run : DefOk P w K mg base "_law_raw_run" 2 ["_law_script", "_law_k", "_law_j", "_law_starts", "_law_patches", "_law_most"] 6 m__law_raw_run) : DefOk P w K mg base "_law_raw_fact" 3 ["_law_script", "_law_k", "_law_starts", "_law_patches", "_law_most"] 5 m__law_raw_fact := by
  have nd := sc__law_raw_fact.nd
  refine def_v N__law_raw_fact b__law_raw_fact R sc__law_raw_fact rfl rfl (fun f cdv A outer s H E hr tk po => ?_)
  exact (vb_cons (vs_set 5 nd (ve_ix (flb := true) (ru1 hr) (ve_lst (va_cons ve_str (va_cons ve_str (va_cons ve_str (va_cons ve_str va_nil))))) (ve_op (fla := true) (flb := true) op_mod of_mod (ve_def d__law_draw tk (hr.mono (by decide)) (va_cons (ve_v 0) (va_cons (ve_v 1) (va_cons ve_int va_nil))) rfl (la_cons (la_cons (la_cons la_nil)))) ve_int)))
      (vb_cons (vs_set 6 nd (ve_def d__law_raw_run tk (hr.mono (by decide)) (va_cons (ve_v 0) (va_cons (ve_v 1) (va_cons ve_int (va_cons (ve_v 2) (va_cons (ve_v 3) (va_cons (ve_v 4) va_nil)))))) rfl (la_cons (la_cons (la_cons (la_cons (la_cons (la_cons la_nil))))))))
      (vb_cons (vs_if (vt_w (vw_or (vt_cmp (fla := true) (flb := true) (op_eqD hr.units) (nomark _) of_eq (ve_v 5) ve_str) (vw_or1 (vt_cmp (fla := true) (flb := true) (op_eqD hr.units) (nomark _) of_eq (ve_v 5) ve_str)))) (vb_one (vs_ret (ve_tup (va_cons (ve_v 5) (va_cons (ve_v 6) va_nil))))) vb_nil)
      (vb_one (vs_ret (ve_tup (va_cons (ve_v 5) (va_cons (ve_v 6) (va_cons (ve_def d__law_raw_run tk (hr.mono (by decide)) (va_cons (ve_v 0) (va_cons (ve_v 1) (va_cons (ve_op op_addA of_add ve_int (ve_v 4)) (va_cons (ve_v 2) (va_cons (ve_v 3) (va_cons (ve_v 4) va_nil)))))) rfl (la_cons (la_cons (la_cons (la_cons (la_cons (la_cons la_nil))))))) va_nil)))))))))
abbrev N__law_char : List Str := ["_law_draw_here", "_law_chars"]
theorem sc__law_char : FnScope N__law_char ["_law_draw_here"] (defScope s__law_char) := ⟨rfl, rfl, rfl, by decide +kernel, rfl, by decide +kernel, by decide +kernel⟩
set_option maxHeartbeats 4000000 in
theorem v__law_char (B : Blt mg) (R : Raw K mg "_law_char" s__law_char ["_law_draw_here"]) : DefOk P w K mg base "_law_char" 1 ["_law_draw_here"] 1 m__law_char := by
  have nd := sc__law_char.nd
  refine def_v N__law_char b__law_char R sc__law_char rfl rfl (fun f cdv A outer s H E hr tk po => ?_)
  exact (vb_cons (vs_set 1 nd ve_str)
      (vb_cons (vs_set 1 nd (ve_op op_addA of_add (ve_v 1) ve_str))
      (vb_one (vs_ret (ve_ix (flb := true) (ru1 hr) (ve_v 1) (ve_op (fla := true) (flb := true) op_mod of_mod (ve_ty (fla := true) call_int1 cf_int B.int (by decide +kernel) (va_cons (ve_v 0) va_nil)) ve_int))))))
abbrev N__law_spoilt_text : List Str := ["_law_script", "_law_k", "_law_text_here", "_law_mode", "_law_at", "_law_char_here", "_law_space"]
theorem sc__law_spoilt_text : FnScope N__law_spoilt_text ["_law_script", "_law_k", "_law_text_here"] (defScope s__law_spoilt_text) := ⟨rfl, rfl, rfl, by decide +kernel, rfl, by decide +kernel, by decide +kernel⟩
set_option maxHeartbeats 4000000 in
theorem v__law_spoilt_text (B : Blt mg) (R : Raw K mg "_law_spoilt_text" s__law_spoilt_text ["_law_script", "_law_k", "_law_text_here"]) (d__law_draw : DefOk P w K mg base "_law_draw" 1 ["_law_script", "_law_k", "_law_j"] 3 m__law_draw) (d__law_char : DefOk P w K mg base "_law_char" 1 ["_law_draw_here"] 1 m__law_char) : DefOk P w K mg base "_law_spoilt_text" 2 ["_law_script", "_law_k", "_law_text_here"] 3 m__law_spoilt_text := by
  have nd := sc__law_spoilt_text.nd
  refine def_v N__law_spoilt_text b__law_spoilt_text R sc__law_spoilt_text rfl rfl (fun f cdv A outer s H E hr tk po => ?_)
  exact (vb_cons (vs_set 3 nd (ve_op (fla := true) (flb := true) op_mod of_mod (ve_def d__law_draw tk (hr.mono (by decide)) (va_cons (ve_v 0) (va_cons (ve_v 1) (va_cons ve_int va_nil))) rfl (la_cons (la_cons (la_cons la_nil)))) ve_int))
      (vb_cons (vs_set 4 nd (ve_op (fla := true) (flb := true) op_mod of_mod (ve_def d__law_draw tk (hr.mono (by decide)) (va_cons (ve_v 0) (va_cons (ve_v 1) (va_cons ve_int va_nil))) rfl (la_cons (la_cons (la_cons la_nil)))) (ve_op op_addA of_add (ve_bi (fla := true) call_len cf_len B.len PySem.boot_len (va_cons (ve_v 2) va_nil)) ve_int)))
      (vb_cons (vs_set 5 nd (ve_def d__law_char tk (hr.mono (by decide)) (va_cons (ve_def d__law_draw tk (hr.mono (by decide)) (va_cons (ve_v 0) (va_cons (ve_v 1) (va_cons ve_int va_nil))) rfl (la_cons (la_cons (la_cons la_nil)))) va_nil) rfl (la_cons la_nil)))
      (vb_cons (vs_set 6 nd (ve_find (fla := true) (flb := true) (ve_v 2) ve_str))
      (vb_cons (vs_if (vt_cmp (fla := true) (flb := true) (op_eqD hr.units) (nomark _) of_eq (ve_v 3) ve_int) (vb_one (vs_ret (ve_op op_addA of_add (ve_op op_addA of_add (ve_sl (ve_v 2) vo_none (vo_some (fl := true) (ve_v 4))) ve_str) (ve_sl (ve_v 2) (vo_some (fl := true) (ve_v 4)) vo_none)))) vb_nil)
      (vb_cons (vs_if (vt_cmp (fla := true) (flb := true) (op_eqD hr.units) (nomark _) of_eq (ve_v 3) ve_int) (vb_one (vs_ret (ve_op op_addA of_add (ve_op op_addA of_add (ve_sl (ve_v 2) vo_none (vo_some (fl := true) (ve_v 4))) (ve_v 5)) (ve_sl (ve_v 2) (vo_some (fl := true) (ve_v 4)) vo_none)))) vb_nil)
      (vb_cons (vs_if (vt_cmp (fla := true) (flb := true) (op_eqD hr.units) (nomark _) of_eq (ve_v 3) ve_int) (vb_one (vs_ret (ve_op op_addA of_add (ve_sl (ve_v 2) vo_none (vo_some (fl := true) (ve_v 4))) (ve_sl (ve_v 2) (vo_some (fl := true) (ve_op op_addA of_add (ve_v 4) ve_int)) vo_none)))) vb_nil)
      (vb_cons (vs_if (vt_cmp (fla := true) (flb := true) (op_eqD hr.units) (nomark _) of_eq (ve_v 3) ve_int) (vb_one (vs_ret (ve_op op_addA of_add (ve_op op_addA of_add (ve_sl (ve_v 2) vo_none (vo_some (fl := true) (ve_v 4))) (ve_v 5)) (ve_sl (ve_v 2) (vo_some (fl := true) (ve_op op_addA of_add (ve_v 4) ve_int)) vo_none)))) vb_nil)
      (vb_cons (vs_if (vt_cmp (fla := true) (flb := true) (op_eqD hr.units) (nomark _) of_eq (ve_v 3) ve_int) (vb_one (vs_ret (ve_op op_addA of_add (ve_v 2) ve_str))) vb_nil)
      (vb_cons (vs_if (vt_cmp (fla := true) (flb := true) (op_eqD hr.units) (nomark _) of_eq (ve_v 3) ve_int) (vb_one (vs_ret (ve_op op_addA of_add ve_str (ve_v 2)))) vb_nil)
      (vb_cons (vs_if (vt_w (vw_and (vt_cmp (fla := true) (flb := true) (op_eqD hr.units) (nomark _) of_eq (ve_v 3) ve_int) (vw_and1 (vt_cmp (fla := true) (flb := true) op_ge (nomark _) of_ge (ve_v 6) ve_int)))) (vb_one (vs_ret (ve_op op_addA of_add (ve_op op_addA of_add (ve_sl (ve_v 2) vo_none (vo_some (fl := true) (ve_v 6))) ve_str) (ve_sl (ve_v 2) (vo_some (fl := true) (ve_v 6)) vo_none)))) vb_nil)
      (vb_cons (vs_if (vt_cmp (fla := true) (flb := true) (op_eqD hr.units) (nomark _) of_eq (ve_v 3) ve_int) (vb_one (vs_ret (ve_op op_addA of_add (ve_op op_addA of_add (ve_v 2) ve_str) (ve_v 2)))) vb_nil)
      (vb_cons (vs_if (vt_cmp (fla := true) (flb := true) (op_eqD hr.units) (nomark _) of_eq (ve_v 3) ve_int) (vb_one (vs_ret ve_str)) vb_nil)
      (vb_cons (vs_if (vt_w (vw_and (vt_cmp (fla := true) (flb := true) (op_eqD hr.units) (nomark _) of_eq (ve_v 3) ve_int) (vw_and1 (vt_cmp (fla := true) (flb := true) op_ge (nomark _) of_ge (ve_v 6) ve_int)))) (vb_one (vs_ret (ve_op op_addA of_add (ve_ix (flb := true) (ru1 hr) (ve_lst (va_cons ve_str (va_cons ve_str (va_cons ve_str (va_cons ve_str (va_cons ve_str (va_cons ve_str va_nil))))))) (ve_op (fla := true) (flb := true) op_mod of_mod (ve_def d__law_draw tk (hr.mono (by decide)) (va_cons (ve_v 0) (va_cons (ve_v 1) (va_cons ve_int va_nil))) rfl (la_cons (la_cons (la_cons la_nil)))) ve_int)) (ve_sl (ve_v 2) (vo_some (fl := true) (ve_v 6)) vo_none)))) vb_nil)
      (vb_cons (vs_if (vt_cmp (fla := true) (flb := true) (op_eqD hr.units) (nomark _) of_eq (ve_v 3) ve_int) (vb_one (vs_ret (ve_upper (fla := true) (ve_v 2)))) vb_nil)
      (vb_cons (vs_if (vt_cmp (fla := true) (flb := true) (op_eqD hr.units) (nomark _) of_eq (ve_v 3) ve_int) (vb_one (vs_ret (ve_op op_addA of_add (ve_v 2) ve_str))) vb_nil)
      (vb_one (vs_ret (ve_v 2)))))))))))))))))))
abbrev N__law_many : List Str := ["_law_script", "_law_j"]
theorem sc__law_many : FnScope N__law_many ["_law_script", "_law_j"] (defScope s__law_many) := ⟨rfl, rfl, rfl, by decide +kernel, rfl, by decide +kernel, by decide +kernel⟩
set_option maxHeartbeats 4000000 in
theorem v__law_many (B : Blt mg) (R : Raw K mg "_law_many" s__law_many ["_law_script", "_law_j"]) (d__law_draw : DefOk P w K mg base "_law_draw" 1 ["_law_script", "_law_k", "_law_j"] 3 m__law_draw) : DefOk P w K mg base "_law_many" 2 ["_law_script", "_law_j"] 2 m__law_many := by
  have nd := sc__law_many.nd
  refine def_v N__law_many b__law_many R sc__law_many rfl rfl (fun f cdv A outer s H E hr tk po => ?_)
  exact (vb_one (vs_ret (ve_ix (flb := true) (ru1 hr) (ve_lst (va_cons ve_int (va_cons ve_int (va_cons ve_int (va_cons ve_int (va_cons ve_int (va_cons ve_int (va_cons ve_int (va_cons ve_int va_nil))))))))) (ve_op (fla := true) (flb := true) op_mod of_mod (ve_def d__law_draw tk (hr.mono (by decide)) (va_cons (ve_v 0) (va_cons ve_int (va_cons (ve_v 1) va_nil))) rfl (la_cons (la_cons (la_cons la_nil)))) ve_int))))
abbrev N__law_text : List Str := ["_law_fact", "_law_text_here", "_law_run", "_law_item"]
theorem sc__law_text : FnScope N__law_text ["_law_fact"] (defScope s__law_text) := ⟨rfl, rfl, rfl, by decide +kernel, rfl, by decide +kernel, by decide +kernel⟩
set_option maxHeartbeats 4000000 in
theorem v__law_text (B : Blt mg) (R : Raw K mg "_law_text" s__law_text ["_law_fact"]) : DefOk P w K mg base "_law_text" 1 ["_law_fact"] 1 m__law_text := by
  have nd := sc__law_text.nd
  refine def_v N__law_text b__law_text R sc__law_text rfl rfl (fun f cdv A outer s H E hr tk po => ?_)
  exact (vb_cons (vs_set 1 nd (ve_ix (flb := true) (ru1 hr) (ve_v 0) ve_int))
      (vb_cons (vs_for po rfl (vi_seq (ve_sl (ve_v 0) (vo_some (fl := true) ve_int) vo_none)) (vg_n 2 nd) (vb_cons (vs_for po rfl (vi_seq (ve_v 2)) (vg_n 3 nd) (vb_one (vs_set 1 nd (ve_op op_addA of_add (ve_op op_addA of_add (ve_v 1) ve_str) (ve_v 3)))))
      (vb_one (vs_set 1 nd (ve_op op_addA of_add (ve_v 1) ve_str)))))
      (vb_one (vs_ret (ve_sl (ve_v 1) vo_none (vo_some (fl := true) (ve_neg (fla := true) ve_int)))))))
abbrev N__law_is_name : List Str := ["_law_text_here", "_law_letters", "_law_char_here"]
theorem sc__law_is_name : FnScope N__law_is_name ["_law_text_here"] (defScope s__law_is_name) := ⟨rfl, rfl, rfl, by decide +kernel, rfl, by decide +kernel, by decide +kernel⟩
set_option maxHeartbeats 4000000 in
theorem v__law_is_name (B : Blt mg) (R : Raw K mg "_law_is_name" s__law_is_name ["_law_text_here"]) : DefOk P w K mg base "_law_is_name" 1 ["_law_text_here"] 1 m__law_is_name := by
  have nd := sc__law_is_name.nd
  refine def_v N__law_is_name b__law_is_name R sc__law_is_name rfl rfl (fun f cdv A outer s H E hr tk po => ?_)
  exact (vb_cons (vs_set 1 nd ve_str)
      (vb_cons (vs_if (vt_w (vw_or (vt_cmp (fla := true) (flb := true) op_lt (nomark _) of_lt (ve_bi (fla := true) call_len cf_len B.len PySem.boot_len (va_cons (ve_v 0) va_nil)) ve_int) (vw_or (vt_cmp (fla := true) (flb := true) op_gt (nomark _) of_gt (ve_bi (fla := true) call_len cf_len B.len PySem.boot_len (va_cons (ve_v 0) va_nil)) ve_int) (vw_or1 (vt_cmp (fla := true) (flb := true) (op_notInA (ru65 hr)) (by rfl) of_notIn (ve_ix (flb := true) (ru1 hr) (ve_v 0) ve_int) (ve_v 1)))))) (vb_one (vs_ret ve_bl)) vb_nil)
      (vb_cons (vs_for po rfl (vi_seq (ve_v 0)) (vg_n 2 nd) (vb_one (vs_if (vt_w (vw_and (vt_cmp (fla := true) (flb := true) (op_notInA (ru65 hr)) (by rfl) of_notIn (ve_v 2) (ve_v 1)) (vw_and1 (vt_cmp (fla := true) (flb := true) (op_notInA (ru65 hr)) (by rfl) of_notIn (ve_v 2) ve_str)))) (vb_one (vs_ret ve_bl)) vb_nil)))
      (vb_one (vs_ret ve_bl)))))
abbrev N__law_is_good_run : List Str := ["_law_run", "_law_step"]
theorem sc__law_is_good_run : FnScope N__law_is_good_run ["_law_run"] (defScope s__law_is_good_run) := ⟨rfl, rfl, rfl, by decide +kernel, rfl, by decide +kernel, by decide +kernel⟩
set_option maxHeartbeats 4000000 in
theorem v__law_is_good_run (B : Blt mg) (R : Raw K mg "_law_is_good_run" s__law_is_good_run ["_law_run"]) (d__law_is_name : DefOk P w K mg base "_law_is_name" 1 ["_law_text_here"] 1 m__law_is_name) : DefOk P w K mg base "_law_is_good_run" 2 ["_law_run"] 1 m__law_is_good_run := by
  have nd := sc__law_is_good_run.nd
  refine def_v N__law_is_good_run b__law_is_good_run R sc__law_is_good_run rfl rfl (fun f cdv A outer s H E hr tk po => ?_)
  exact (vb_cons (vs_if (vt_w (vw_or (vt_cmp (fla := true) (flb := true) (op_eqD hr.units) (nomark _) of_eq (ve_bi (fla := true) call_len cf_len B.len PySem.boot_len (va_cons (ve_v 0) va_nil)) ve_int) (vw_or1 (vt_not (vt_val (fl := true) (ve_def d__law_is_name tk (hr.mono (by decide)) (va_cons (ve_ix (flb := true) (ru1 hr) (ve_v 0) ve_int) va_nil) rfl (la_cons la_nil))))))) (vb_one (vs_ret ve_bl)) vb_nil)
      (vb_cons (vs_for po rfl (vi_seq (ve_sl (ve_v 0) (vo_some (fl := true) ve_int) vo_none)) (vg_n 1 nd) (vb_one (vs_if (vt_w (vw_or (vt_cmp (fla := true) (flb := true) (op_notInA (ru65 hr)) (by rfl) of_notIn (ve_sl (ve_v 1) vo_none (vo_some (fl := true) ve_int)) (ve_lst (va_cons ve_str (va_cons ve_str va_nil)))) (vw_or1 (vt_not (vt_val (fl := true) (ve_def d__law_is_name tk (hr.mono (by decide)) (va_cons (ve_sl (ve_v 1) (vo_some (fl := true) ve_int) vo_none) va_nil) rfl (la_cons la_nil))))))) (vb_one (vs_ret ve_bl)) vb_nil)))
      (vb_one (vs_ret ve_bl))))
abbrev N__law_is_run : List Str := ["_law_value", "_law_item"]
theorem sc__law_is_run : FnScope N__law_is_run ["_law_value"] (defScope s__law_is_run) := ⟨rfl, rfl, rfl, by decide +kernel, rfl, by decide +kernel, by decide +kernel⟩
set_option maxHeartbeats 4000000 in
theorem v__law_is_run (B : Blt mg) (R : Raw K mg "_law_is_run" s__law_is_run ["_law_value"]) : DefOk P w K mg base "_law_is_run" 1 ["_law_value"] 1 m__law_is_run := by
  have nd := sc__law_is_run.nd
  refine def_v N__law_is_run b__law_is_run R sc__law_is_run rfl rfl (fun f cdv A outer s H E hr tk po => ?_)
  exact (vb_cons (vs_if (vt_w (vw_or (vt_not (vt_val (fl := true) (ve_isT (T := "tuple") (fla := true) (ve_v 0) B.isinstance B.tuple (by decide +kernel)))) (vw_or1 (vt_cmp (fla := true) (flb := true) (op_eqD hr.units) (nomark _) of_eq (ve_bi (fla := true) call_len cf_len B.len PySem.boot_len (va_cons (ve_v 0) va_nil)) ve_int)))) (vb_one (vs_ret ve_bl)) vb_nil)
      (vb_cons (vs_for po rfl (vi_seq (ve_v 0)) (vg_n 1 nd) (vb_one (vs_if (vt_not (vt_val (fl := true) (ve_isT (T := "str") (fla := true) (ve_v 1) B.isinstance B.str (by decide +kernel)))) (vb_one (vs_ret ve_bl)) vb_nil)))
      (vb_one (vs_ret ve_bl))))
abbrev N__law_is_fact : List Str := ["_law_value", "_law_run"]
theorem sc__law_is_fact : FnScope N__law_is_fact ["_law_value"] (defScope s__law_is_fact) := ⟨rfl, rfl, rfl, by decide +kernel, rfl, by decide +kernel, by decide +kernel⟩
set_option maxHeartbeats 4000000 in
theorem v__law_is_fact (B : Blt mg) (R : Raw K mg "_law_is_fact" s__law_is_fact ["_law_value"]) (d__law_is_run : DefOk P w K mg base "_law_is_run" 1 ["_law_value"] 1 m__law_is_run) : DefOk P w K mg base "_law_is_fact" 2 ["_law_value"] 1 m__law_is_fact := by
  have nd := sc__law_is_fact.nd
  refine def_v N__law_is_fact b__law_is_fact R sc__law_is_fact rfl rfl (fun f cdv A outer s H E hr tk po => ?_)
  exact (vb_cons (vs_if (vt_w (vw_or (vt_not (vt_val (fl := true) (ve_isT (T := "tuple") (fla := true) (ve_v 0) B.isinstance B.tuple (by decide +kernel)))) (vw_or (vt_cmp (fla := true) (flb := true) op_lt (nomark _) of_lt (ve_bi (fla := true) call_len cf_len B.len PySem.boot_len (va_cons (ve_v 0) va_nil)) ve_int) (vw_or1 (vt_not (vt_val (fl := true) (ve_isT (T := "str") (fla := true) (ve_ix (flb := true) (ru1 hr) (ve_v 0) ve_int) B.isinstance B.str (by decide +kernel)))))))) (vb_one (vs_ret ve_bl)) vb_nil)
      (vb_cons (vs_for po rfl (vi_seq (ve_sl (ve_v 0) (vo_some (fl := true) ve_int) vo_none)) (vg_n 1 nd) (vb_one (vs_if (vt_not (vt_val (fl := true) (ve_def d__law_is_run tk (hr.mono (by decide)) (va_cons (ve_v 1) va_nil) rfl (la_cons la_nil)))) (vb_one (vs_ret ve_bl)) vb_nil)))
      (vb_one (vs_ret ve_bl))))
abbrev N_is_name : List Str := ["text", "char"]
theorem sc_is_name : FnScope N_is_name ["text"] (defScope s_is_name) := ⟨rfl, rfl, rfl, by decide +kernel, rfl, by decide +kernel, by decide +kernel⟩
set_option maxHeartbeats 4000000 in
theorem v_is_name (B : Blt mg) (R : Raw K mg "is_name" s_is_name ["text"]) {t_LONGEST_NAME : Tok} (C_LONGEST_NAME : mg "LONGEST_NAME" = some (.int 12 t_LONGEST_NAME)) {t_LETTERS : Tok} (C_LETTERS : mg "LETTERS" = some (.str "abcdefghijklmnopqrstuvwxyz" t_LETTERS)) {t_DIGITS : Tok} (C_DIGITS : mg "DIGITS" = some (.str "0123456789" t_DIGITS)) : DefOk P w K mg base "is_name" 1 ["text"] 1 m_is_name := by
  have nd := sc_is_name.nd
  refine def_v N_is_name b_is_name R sc_is_name rfl rfl (fun f cdv A outer s H E hr tk po => ?_)
  exact (vb_cons (vs_if (vt_w (vw_or (vt_not (vt_chain (fla := true) (flb := true) (flc := true) op_le of_le op_le of_le ve_int (ve_bi (fla := true) call_len cf_len B.len PySem.boot_len (va_cons (ve_v 0) va_nil)) (ve_gInt C_LONGEST_NAME))) (vw_or1 (vt_cmp (fla := true) (flb := true) (op_notInA (ru65 hr)) (by rfl) of_notIn (ve_ix (flb := true) (ru1 hr) (ve_v 0) ve_int) (ve_gStr C_LETTERS))))) (vb_one (vs_ret ve_bl)) vb_nil)
      (vb_cons (vs_for po rfl (vi_seq (ve_v 0)) (vg_n 1 nd) (vb_one (vs_if (vt_w (vw_and (vt_cmp (fla := true) (flb := true) (op_notInA (ru65 hr)) (by rfl) of_notIn (ve_v 1) (ve_gStr C_LETTERS)) (vw_and1 (vt_cmp (fla := true) (flb := true) (op_notInA (ru65 hr)) (by rfl) of_notIn (ve_v 1) (ve_gStr C_DIGITS))))) (vb_one (vs_ret ve_bl)) vb_nil)))
      (vb_one (vs_ret ve_bl))))
abbrev N_is_step : List Str := ["text"]
theorem sc_is_step : FnScope N_is_step ["text"] (defScope s_is_step) := ⟨rfl, rfl, rfl, by decide +kernel, rfl, by decide +kernel, by decide +kernel⟩
set_option maxHeartbeats 4000000 in
theorem v_is_step (B : Blt mg) (R : Raw K mg "is_step" s_is_step ["text"]) (d_is_name : DefOk P w K mg base "is_name" 1 ["text"] 1 m_is_name) : DefOk P w K mg base "is_step" 2 ["text"] 1 m_is_step := by
  have nd := sc_is_step.nd
  refine def_v N_is_step b_is_step R sc_is_step rfl rfl (fun f cdv A outer s H E hr tk po => ?_)
  exact (vb_one (vs_ret (ve_and (fla := true) (ve_cmp (fla := true) (flb := true) (op_inA (ru65 hr)) (by rfl) of_in (ve_sl (ve_v 0) vo_none (vo_some (fl := true) ve_int)) (ve_tup (va_cons ve_str (va_cons ve_str va_nil)))) (ve_one (ve_def d_is_name tk (hr.mono (by decide)) (va_cons (ve_sl (ve_v 0) (vo_some (fl := true) ve_int) vo_none) va_nil) rfl (la_cons la_nil))))))
abbrev N_check_run : List Str := ["run", "step"]
theorem sc_check_run : FnScope N_check_run ["run"] (defScope s_check_run) := ⟨rfl, rfl, rfl, by decide +kernel, rfl, by decide +kernel, by decide +kernel⟩
set_option maxHeartbeats 4000000 in
theorem v_check_run (B : Blt mg) (R : Raw K mg "check_run" s_check_run ["run"]) (E_BadRun : ExI P w K mg base "BadRun" ["run"]) (d_is_name : DefOk P w K mg base "is_name" 1 ["text"] 1 m_is_name) (d_is_step : DefOk P w K mg base "is_step" 2 ["text"] 1 m_is_step) : DefOk P w K mg base "check_run" 3 ["run"] 1 m_check_run := by
  have nd := sc_check_run.nd
  refine def_v N_check_run b_check_run R sc_check_run rfl rfl (fun f cdv A outer s H E hr tk po => ?_)
  exact (vb_cons (vs_if (vt_w (vw_or (vt_cmp (fla := true) (flb := true) (op_eqD hr.units) (nomark _) of_eq (ve_bi (fla := true) call_len cf_len B.len PySem.boot_len (va_cons (ve_v 0) va_nil)) ve_int) (vw_or1 (vt_not (vt_val (fl := true) (ve_def d_is_name tk (hr.mono (by decide)) (va_cons (ve_ix (flb := true) (ru1 hr) (ve_v 0) ve_int) va_nil) rfl (la_cons la_nil))))))) (vb_one (vs_raise rfl tk (hr.mono (by decide)) E_BadRun (va_cons (ve_v 0) va_nil) (by decide))) vb_nil)
      (vb_one (vs_for po rfl (vi_seq (ve_sl (ve_v 0) (vo_some (fl := true) ve_int) vo_none)) (vg_n 1 nd) (vb_one (vs_if (vt_not (vt_val (fl := true) (ve_def d_is_step tk (hr.mono (by decide)) (va_cons (ve_v 1) va_nil) rfl (la_cons la_nil)))) (vb_one (vs_raise rfl tk (hr.mono (by decide)) E_BadRun (va_cons (ve_v 0) va_nil) (by decide))) vb_nil)))))
abbrev N_run_of : List Str := ["words", "line", "run"]
theorem sc_run_of : FnScope N_run_of ["words", "line"] (defScope s_run_of) := ⟨rfl, rfl, rfl, by decide +kernel, rfl, by decide +kernel, by decide +kernel⟩
set_option maxHeartbeats 4000000 in
theorem v_run_of (B : Blt mg) (R : Raw K mg "run_of" s_run_of ["words", "line"]) {A_BadRun : Addr} (g_BadRun : mg "BadRun" = some (.ref A_BadRun)) (H_BadRun : ∀ c b, ([("BadRun", true), ("BadLine", false)] : List (Str × Bool)).lookup c = some b → ∃ C, mg c = some C ∧ PySem.W.exmOne K C (.ref A_BadRun) = some b) (E_BadLine : ExI P w K mg base "BadLine" ["line"]) (EC_BadLine : ExIC P w K mg base "BadLine" ["line"]) (d_check_run : DefOk P w K mg base "check_run" 3 ["run"] 1 m_check_run) : DefOk2 P w K mg base "run_of" 4 ["words", "line"] 2 m_run_of := by
  have nd := sc_run_of.nd
  refine def_v2 N_run_of b_run_of R sc_run_of rfl rfl (fun f cdv A outer s H E hr tk po => ?_)
  exact (vb_cons (vs_set 2 nd (ve_ty call_tuple_of cf_tuple B.tuple (by decide +kernel) (va_cons (ve_v 0) va_nil)))
      (vb_cons (vs_tryX (cat := [("BadRun", true), ("BadLine", false)]) tk rfl rfl (fun _ => PassesOwnAt.leaving) ⟨rfl, by decide, Or.inl g_BadRun⟩ H_BadRun (fun W pn xe tk po => (vb_one (vs_expr (fl := true) (ve_def d_check_run tk (hr.mono (by decide)) (va_cons (ve_v 2) va_nil) rfl (la_cons la_nil))))) (fun a pn tk hot => (vb_one (vs_raiseHN hot tk ((rhm hr (some (.ref a))).mono (by decide)) EC_BadLine (va_cons (ve_v 1) va_nil) (by decide)))))
      (vb_one (vs_ret (ve_v 2)))))
abbrev N_read_run : List Str := ["text"]
theorem sc_read_run : FnScope N_read_run ["text"] (defScope s_read_run) := ⟨rfl, rfl, rfl, by decide +kernel, rfl, by decide +kernel, by decide +kernel⟩
set_option maxHeartbeats 4000000 in
theorem v_read_run (B : Blt mg) (R : Raw K mg "read_run" s_read_run ["text"]) (e_run_of : DefOk2 P w K mg base "run_of" 4 ["words", "line"] 2 m_run_of) : DefOk2 P w K mg base "read_run" 5 ["text"] 1 m_read_run := by
  have nd := sc_read_run.nd
  refine def_v2 N_read_run b_read_run R sc_read_run rfl rfl (fun f cdv A outer s H E hr tk po => ?_)
  exact (vb_one (vs_ret (ve_def2 e_run_of tk (hr.mono (by decide)) (va_cons (ve_split (fla := true) (flb := true) (ve_v 0) ve_str) (va_cons ve_int va_nil)) rfl (la_cons (la_cons la_nil)))))
abbrev N_fact_of : List Str := ["text", "line", "words", "middle"]
theorem sc_fact_of : FnScope N_fact_of ["text", "line"] (defScope s_fact_of) := ⟨rfl, rfl, rfl, by decide +kernel, rfl, by decide +kernel, by decide +kernel⟩
set_option maxHeartbeats 4000000 in
theorem v_fact_of (B : Blt mg) (R : Raw K mg "fact_of" s_fact_of ["text", "line"]) (E_BadLine : ExI P w K mg base "BadLine" ["line"]) (e_run_of : DefOk2 P w K mg base "run_of" 4 ["words", "line"] 2 m_run_of) : DefOk2 P w K mg base "fact_of" 5 ["text", "line"] 2 m_fact_of := by
  have nd := sc_fact_of.nd
  refine def_v2 N_fact_of b_fact_of R sc_fact_of rfl rfl (fun f cdv A outer s H E hr tk po => ?_)
  exact (vb_cons (vs_set 2 nd (ve_split (fla := true) (flb := true) (ve_v 0) ve_str))
      (vb_one (vs_match (fl := true) (ve_ix (flb := true) (ru1 hr) (ve_v 2) ve_int) (.two (vb_one (vs_ret (ve_tup (va_cons (ve_ix (flb := true) (ru1 hr) (ve_v 2) ve_int) (va_cons (ve_def2 e_run_of tk (hr.mono (by decide)) (va_cons (ve_sl (ve_v 2) (vo_some (fl := true) ve_int) vo_none) (va_cons (ve_v 1) va_nil)) rfl (la_cons (la_cons la_nil))) va_nil))))) (.two (vb_cons (vs_if (vt_cmp (fla := true) (flb := true) (op_neD hr.units) (nomark _) of_ne (ve_lm (fla := true) (flb := true) PySem.F.slot_list_count PySem.F.type_list_count mt_countF lf_count (ve_v 2) ve_str) ve_int) (vb_one (vs_raise2 rfl tk (hr.mono (by decide)) E_BadLine (va_cons (ve_v 1) va_nil) (by decide))) vb_nil)
      (vb_cons (vs_set 3 nd (ve_lm (fla := true) (flb := true) PySem.F.slot_list_index PySem.F.type_list_index mt_index lf_index (ve_v 2) ve_str))
      (vb_one (vs_ret (ve_tup (va_cons (ve_ix (flb := true) (ru1 hr) (ve_v 2) ve_int) (va_cons (ve_def2 e_run_of tk (hr.mono (by decide)) (va_cons (ve_sl (ve_v 2) (vo_some (fl := true) ve_int) (vo_some (fl := true) (ve_v 3))) (va_cons (ve_v 1) va_nil)) rfl (la_cons (la_cons la_nil))) (va_cons (ve_def2 e_run_of tk (hr.mono (by decide)) (va_cons (ve_sl (ve_v 2) (vo_some (fl := true) (ve_op op_addA of_add (ve_v 3) ve_int)) vo_none) (va_cons (ve_v 1) va_nil)) rfl (la_cons (la_cons la_nil))) va_nil)))))))) (.any (vb_one (vs_raise2 rfl tk (hr.mono (by decide)) E_BadLine (va_cons (ve_v 1) va_nil) (by decide)))))))))
abbrev N_read_fact : List Str := ["text"]
theorem sc_read_fact : FnScope N_read_fact ["text"] (defScope s_read_fact) := ⟨rfl, rfl, rfl, by decide +kernel, rfl, by decide +kernel, by decide +kernel⟩
set_option maxHeartbeats 4000000 in
theorem v_read_fact (B : Blt mg) (R : Raw K mg "read_fact" s_read_fact ["text"]) (e_fact_of : DefOk2 P w K mg base "fact_of" 5 ["text", "line"] 2 m_fact_of) : DefOk2 P w K mg base "read_fact" 6 ["text"] 1 m_read_fact := by
  have nd := sc_read_fact.nd
  refine def_v2 N_read_fact b_read_fact R sc_read_fact rfl rfl (fun f cdv A outer s H E hr tk po => ?_)
  exact (vb_one (vs_ret (ve_def2 e_fact_of tk (hr.mono (by decide)) (va_cons (ve_v 0) (va_cons ve_int va_nil)) rfl (la_cons (la_cons la_nil)))))
abbrev N__law_is_integer : List Str := ["_law_value"]
theorem sc__law_is_integer : FnScope N__law_is_integer ["_law_value"] (defScope s__law_is_integer) := ⟨rfl, rfl, rfl, by decide +kernel, rfl, by decide +kernel, by decide +kernel⟩
set_option maxHeartbeats 4000000 in
theorem v__law_is_integer (B : Blt mg) (R : Raw K mg "_law_is_integer" s__law_is_integer ["_law_value"]) : DefOkC P w K mg base "_law_is_integer" 1 ["_law_value"] 1 m__law_is_integer := by
  have nd := sc__law_is_integer.nd
  refine def_vC N__law_is_integer b__law_is_integer R sc__law_is_integer rfl rfl (fun f cdv A outer s H E p hr tk => ?_)
  exact (vb_one (vs_ret (ve_and (fla := true) (ve_isT (T := "int") (fla := true) (ve_v 0) B.isinstance B.int (by decide +kernel)) (ve_one (ve_not (fla := true) (ve_isT (T := "bool") (fla := true) (ve_v 0) B.isinstance B.bool (by decide +kernel)))))))
abbrev N__law_refused_line : List Str := ["_law_e", "_law_line"]
theorem sc__law_refused_line : FnScope N__law_refused_line ["_law_e", "_law_line"] (defScope s__law_refused_line) := ⟨rfl, rfl, rfl, by decide +kernel, rfl, by decide +kernel, by decide +kernel⟩
set_option maxHeartbeats 4000000 in
theorem v__law_refused_line (B : Blt mg) (R : Raw K mg "_law_refused_line" s__law_refused_line ["_law_e", "_law_line"]) (xo : XObj K) {A_PatchError : Addr} (g_PatchError : mg "PatchError" = some (.ref A_PatchError)) (I_PatchError : ∀ n b, ([("BadRun", true), ("BadLine", true)] : List (Str × Bool)).lookup n = some b → ∃ C, XCls K mg n C ∧ PySem.W.kitOne K (.ref C) (.ref A_PatchError) = some b) (I_ValueError : ∀ n b, ([("BadRun", true), ("BadLine", true)] : List (Str × Bool)).lookup n = some b → ∃ C, XCls K mg n C ∧ PySem.W.kitOne K (.ref C) (.type "ValueError") = some b) {A_BadRun : Addr} (g_BadRun : mg "BadRun" = some (.ref A_BadRun)) {A_BadFact : Addr} (g_BadFact : mg "BadFact" = some (.ref A_BadFact)) {A_BadStore : Addr} (g_BadStore : mg "BadStore" = some (.ref A_BadStore)) {A_UnknownStart : Addr} (g_UnknownStart : mg "UnknownStart" = some (.ref A_UnknownStart)) {A_NoStore : Addr} (g_NoStore : mg "NoStore" = some (.ref A_NoStore)) {A_NotForced : Addr} (g_NotForced : mg "NotForced" = some (.ref A_NotForced)) {A_NoFact : Addr} (g_NoFact : mg "NoFact" = some (.ref A_NoFact)) (J_BadRun_BadFact_BadStore_UnknownStart_NoStore_NotForced_NoFact : ∀ n b, ([("BadRun", true), ("BadLine", false)] : List (Str × Bool)).lookup n = some b → ∃ C, XCls K mg n C ∧ PySem.W.kitAny K (.ref C) [.ref A_BadRun, .ref A_BadFact, .ref A_BadStore, .ref A_UnknownStart, .ref A_NoStore, .ref A_NotForced, .ref A_NoFact] = some b) (K_line : ∀ n, (["BadLine"] : List Str).contains n = true → ∃ C, XCls K mg n C ∧ PySem.W.findIn K (.ref C) "line" = some none) (c__law_is_integer : DefOkC P w K mg base "_law_is_integer" 1 ["_law_value"] 1 m__law_is_integer) : DefOkC P w K mg base "_law_refused_line" 2 ["_law_e", "_law_line"] 2 m__law_refused_line := by
  have nd := sc__law_refused_line.nd
  refine def_vC N__law_refused_line b__law_refused_line R sc__law_refused_line rfl rfl (fun f cdv A outer s H E p hr tk => ?_)
  exact (vb_cons (vs_if (vt_w (vw_or (vt_not (vt_val (fl := true) (ve_isX (fla := true) (tbl := [("BadRun", true), ("BadLine", true)]) xo (ve_v 0) (vc_own g_PatchError) I_PatchError B.isinstance))) (vw_or1 (vt_not (vt_val (fl := true) (ve_isX (fla := true) (tbl := [("BadRun", true), ("BadLine", true)]) xo (ve_v 0) (vc_blt B.ValueError (by decide +kernel)) I_ValueError B.isinstance)))))) (vb_one (vs_ret ve_bl)) vb_nil)
      (vb_cons (vs_if (vt_val (fl := true) (ve_isXT (fla := true) (tbl := [("BadRun", true), ("BadLine", false)]) xo (ve_v 0) (vcs_cons (vc_own g_BadRun) (vcs_cons (vc_own g_BadFact) (vcs_cons (vc_own g_BadStore) (vcs_cons (vc_own g_UnknownStart) (vcs_cons (vc_own g_NoStore) (vcs_cons (vc_own g_NotForced) (vcs_cons (vc_own g_NoFact) vcs_nil))))))) J_BadRun_BadFact_BadStore_UnknownStart_NoStore_NotForced_NoFact (Nat.le_of_ble_eq_true rfl) B.isinstance)) (vb_one (vs_ret ve_bl)) vb_nil)
      (vb_one (vs_ret (ve_and (fla := true) (ve_defC c__law_is_integer tk (hr.mono (by decide)) (va_cons (ve_xF (cs := ["BadLine"]) (ve_v 0) K_line) va_nil) rfl (la_cons la_nil)) (ve_one (ve_cmp (fla := true) (flb := true) (op_eqD (rhu hr)) (nomark _) of_eq (ve_xF (cs := ["BadLine"]) (ve_v 0) K_line) (ve_v 1))))))))
abbrev N__law_one : List Str := ["_law_text_here", "_law_due", "_law_run", "_law_e", "_law_told"]
theorem sc__law_one : FnScope N__law_one ["_law_text_here", "_law_due", "_law_run"] (defScope s__law_one) := ⟨rfl, rfl, rfl, by decide +kernel, rfl, by decide +kernel, by decide +kernel⟩
set_option maxHeartbeats 4000000 in
theorem v__law_one (B : Blt mg) (R : Raw K mg "_law_one" s__law_one ["_law_text_here", "_law_due", "_law_run"]) {A_BadLine : Addr} (g_BadLine : mg "BadLine" = some (.ref A_BadLine)) (H_BadLine : ∀ c b, ([("BadRun", false), ("BadLine", true)] : List (Str × Bool)).lookup c = some b → ∃ C, mg c = some C ∧ PySem.W.exmOne K C (.ref A_BadLine) = some b) (c__law_refused_line : DefOkC P w K mg base "_law_refused_line" 2 ["_law_e", "_law_line"] 2 m__law_refused_line) (e_read_run : DefOk2 P w K mg base "read_run" 5 ["text"] 1 m_read_run) (e_read_fact : DefOk2 P w K mg base "read_fact" 6 ["text"] 1 m_read_fact) (e__law_is_run : DefOk2 P w K mg base "_law_is_run" 1 ["_law_value"] 1 m__law_is_run) (e__law_is_fact : DefOk2 P w K mg base "_law_is_fact" 2 ["_law_value"] 1 m__law_is_fact) : DefOk2 P w K mg base "_law_one" 7 ["_law_text_here", "_law_due", "_law_run"] 3 m__law_one := by
  have nd := sc__law_one.nd
  refine def_v2 N__law_one b__law_one R sc__law_one rfl rfl (fun f cdv A outer s H E hr tk po => ?_)
  exact (vb_cons (vs_tryL tk rfl rfl nd (fun W pn xe tk po => (vb_one (vs_if (vt_val (fl := true) (ve_v 2)) (vb_one (vs_set 4 nd (ve_def2 e_read_run tk (hr.mono (by decide)) (va_cons (ve_v 0) va_nil) rfl (la_cons la_nil)))) (vb_one (vs_set 4 nd (ve_def2 e_read_fact tk (hr.mono (by decide)) (va_cons (ve_v 0) va_nil) rfl (la_cons la_nil))))))) (.named (cat := [("BadRun", false), ("BadLine", true)]) (i := 3) ⟨rfl, by decide, Or.inl g_BadLine⟩ H_BadLine rfl rfl (fun a pn => (vb_one (vs_ret (ve_and (fla := true) (ve_cmp (fla := true) (flb := true) op_isN (nomark _) of_isN (ve_v 1) ve_non) (ve_one (ve_defC c__law_refused_line tkW0 ((rhm hr (some (.ref a))).mono (by decide)) (va_cons (ve_v 3) (va_cons ve_int va_nil)) rfl (la_cons (la_cons la_nil)))))))) .nil))
      (vb_cons (vs_if (vt_cmp (fla := true) (flb := true) op_isN (nomark _) of_isN (ve_v 1) ve_non) (vb_one (vs_ret ve_bl)) vb_nil)
      (vb_cons (vs_if (vt_val (fl := true) (ve_v 2)) (vb_one (vs_ret (ve_and (fla := true) (ve_def2 e__law_is_run tk (hr.mono (by decide)) (va_cons (ve_v 4) va_nil) rfl (la_cons la_nil)) (ve_one (ve_cmp (fla := true) (flb := true) (op_eqD hr.units) (nomark _) of_eq (ve_v 4) (ve_v 1)))))) vb_nil)
      (vb_one (vs_ret (ve_and (fla := true) (ve_def2 e__law_is_fact tk (hr.mono (by decide)) (va_cons (ve_v 4) va_nil) rfl (la_cons la_nil)) (ve_one (ve_cmp (fla := true) (flb := true) (op_eqD hr.units) (nomark _) of_eq (ve_v 4) (ve_v 1)))))))))
abbrev N_read_book : List Str := ["text", "facts", "number", "take", "line"]
theorem sc_read_book : FnScope N_read_book ["text"] (defScope s_read_book) := ⟨rfl, rfl, rfl, by decide +kernel, rfl, by decide +kernel, by decide +kernel⟩
theorem sc_take : NdefX.NScope tkN ["line"] ["facts", "number"] (C8.fnScope s_take) := NdefX.nscope_by (by decide +kernel)
theorem fr_take : ∀ y ∈ (C8.fnScope s_take).names, y.2 = .free → (defScope s_read_book).names.lookup y.1 = some .cell ∨ (defScope s_read_book).names.lookup y.1 = some .free := NdefX.ndef_free (fr := ["facts", "number"]) (by decide +kernel)
set_option maxHeartbeats 4000000 in
theorem v_read_book (B : Blt mg) (R : Raw K mg "read_book" s_read_book ["text"]) {c_tab P_tab : Addr} (hcd : ∀ f fd, mg "read_book" = some (.ref f) → (∃ oc od osl, K.lookup f = some ⟨oc, od, .func fd, osl⟩) → fd.code = .ref c_tab) (TB : LamX.TabB base mg c_tab P_tab) (htP : tabP = some P_tab) (e_fact_of : DefOk2 P w K mg base "fact_of" 5 ["text", "line"] 2 m_fact_of) : DefOkO2 P w K mg base "read_book" 7 ["text"] 1 m_read_book := by
  refine book_ok (tst := s_take) (k := 5) (ψ := b_take) R sc_read_book hcd TB htP rfl rfl rfl rfl rfl rfl rfl sc_take rfl fr_take rfl rfl (fun _ => rfl) (fun _ _ _ _ _ _ us h => by match us, h with | [u], _ => rfl) (fun _ => rfl) (fun _ => rfl) (fun _ => rfl) (fun _ _ => rfl) (fun f A outer s H E => vi_seq (ve_split (fla := true) (flb := true) (ve_v 0) ve_str)) (fun qual cl c1 f A outer s H E hr tk => ?_)
  exact (vbk_one (vsk_if (vt_w (vw_and (vt_cmp (fla := true) (flb := true) (op_neD hr.units) (nomark _) of_ne (ve_v 0) ve_str) (vw_and1 (vt_not (vt_val (fl := true) (ve_starts (fla := true) (flb := true) (ve_v 0) ve_str)))))) (vbk_one (vsk_app 1 (ve_def2 e_fact_of tk (hr.mono (by decide)) (va_cons (ve_v 0) (va_cons (ve_v 2) va_nil)) rfl (la_cons (la_cons la_nil))))) vbk_nil))
abbrev N__law_same_facts : List Str := ["_law_told", "_law_due", "_law_at"]
theorem sc__law_same_facts : FnScope N__law_same_facts ["_law_told", "_law_due"] (defScope s__law_same_facts) := ⟨rfl, rfl, rfl, by decide +kernel, rfl, by decide +kernel, by decide +kernel⟩
set_option maxHeartbeats 4000000 in
theorem v__law_same_facts (B : Blt mg) (R : Raw K mg "_law_same_facts" s__law_same_facts ["_law_told", "_law_due"]) (d__law_is_fact : DefOk P w K mg base "_law_is_fact" 2 ["_law_value"] 1 m__law_is_fact) : DefOk P w K mg base "_law_same_facts" 3 ["_law_told", "_law_due"] 2 m__law_same_facts := by
  have nd := sc__law_same_facts.nd
  refine def_v N__law_same_facts b__law_same_facts R sc__law_same_facts rfl rfl (fun f cdv A outer s H E hr tk po => ?_)
  exact (vb_cons (vs_if (vt_w (vw_or (vt_not (vt_val (fl := true) (ve_isT (T := "list") (fla := true) (ve_v 0) B.isinstance B.list (by decide +kernel)))) (vw_or1 (vt_cmp (fla := true) (flb := true) (op_neD hr.units) (nomark _) of_ne (ve_bi (fla := true) call_len cf_len B.len PySem.boot_len (va_cons (ve_v 0) va_nil)) (ve_bi (fla := true) call_len cf_len B.len PySem.boot_len (va_cons (ve_v 1) va_nil)))))) (vb_one (vs_ret ve_bl)) vb_nil)
      (vb_cons (vs_for po rfl (vi_range1 (fl := true) B.range (va_cons (ve_bi (fla := true) call_len cf_len B.len PySem.boot_len (va_cons (ve_v 1) va_nil)) va_nil)) (vg_n 2 nd) (vb_one (vs_if (vt_w (vw_or (vt_not (vt_val (fl := true) (ve_def d__law_is_fact tk (hr.mono (by decide)) (va_cons (ve_ix (flb := true) (ru1 hr) (ve_v 0) (ve_v 2)) va_nil) rfl (la_cons la_nil)))) (vw_or1 (vt_cmp (fla := true) (flb := true) (op_neD hr.units) (nomark _) of_ne (ve_ix (flb := true) (ru1 hr) (ve_v 0) (ve_v 2)) (ve_ix (flb := true) (ru1 hr) (ve_v 1) (ve_v 2)))))) (vb_one (vs_ret ve_bl)) vb_nil)))
      (vb_one (vs_ret ve_bl))))
abbrev N__law_is_good_fact : List Str := ["_law_fact", "_law_many_here", "_law_run"]
theorem sc__law_is_good_fact : FnScope N__law_is_good_fact ["_law_fact"] (defScope s__law_is_good_fact) := ⟨rfl, rfl, rfl, by decide +kernel, rfl, by decide +kernel, by decide +kernel⟩
set_option maxHeartbeats 4000000 in
theorem v__law_is_good_fact (B : Blt mg) (R : Raw K mg "_law_is_good_fact" s__law_is_good_fact ["_law_fact"]) (d__law_is_good_run : DefOk P w K mg base "_law_is_good_run" 2 ["_law_run"] 1 m__law_is_good_run) : DefOk P w K mg base "_law_is_good_fact" 3 ["_law_fact"] 1 m__law_is_good_fact := by
  have nd := sc__law_is_good_fact.nd
  refine def_v N__law_is_good_fact b__law_is_good_fact R sc__law_is_good_fact rfl rfl (fun f cdv A outer s H E hr tk po => ?_)
  exact (vb_cons (vs_if (vt_w (vw_or (vt_cmp (fla := true) (flb := true) (op_eqD hr.units) (nomark _) of_eq (ve_bi (fla := true) call_len cf_len B.len PySem.boot_len (va_cons (ve_v 0) va_nil)) ve_int) (vw_or1 (vt_cmp (fla := true) (flb := true) (op_notInA (ru65 hr)) (by rfl) of_notIn (ve_ix (flb := true) (ru1 hr) (ve_v 0) ve_int) (ve_lst (va_cons ve_str (va_cons ve_str (va_cons ve_str (va_cons ve_str va_nil))))))))) (vb_one (vs_ret ve_bl)) vb_nil)
      (vb_cons (vs_set 1 nd ve_int)
      (vb_cons (vs_if (vt_w (vw_or (vt_cmp (fla := true) (flb := true) (op_eqD hr.units) (nomark _) of_eq (ve_ix (flb := true) (ru1 hr) (ve_v 0) ve_int) ve_str) (vw_or1 (vt_cmp (fla := true) (flb := true) (op_eqD hr.units) (nomark _) of_eq (ve_ix (flb := true) (ru1 hr) (ve_v 0) ve_int) ve_str)))) (vb_one (vs_set 1 nd ve_int)) vb_nil)
      (vb_cons (vs_if (vt_cmp (fla := true) (flb := true) (op_neD hr.units) (nomark _) of_ne (ve_bi (fla := true) call_len cf_len B.len PySem.boot_len (va_cons (ve_v 0) va_nil)) (ve_op op_addA of_add (ve_v 1) ve_int)) (vb_one (vs_ret ve_bl)) vb_nil)
      (vb_cons (vs_for po rfl (vi_seq (ve_sl (ve_v 0) (vo_some (fl := true) ve_int) vo_none)) (vg_n 2 nd) (vb_one (vs_if (vt_not (vt_val (fl := true) (ve_def d__law_is_good_run tk (hr.mono (by decide)) (va_cons (ve_v 2) va_nil) rfl (la_cons la_nil)))) (vb_one (vs_ret ve_bl)) vb_nil)))
      (vb_one (vs_ret ve_bl)))))))
abbrev N__law_read_fact : List Str := ["_law_text_here", "_law_words", "_law_places", "_law_fact", "_law_at"]
theorem sc__law_read_fact : FnScope N__law_read_fact ["_law_text_here"] (defScope s__law_read_fact) := ⟨rfl, rfl, rfl, by decide +kernel, rfl, by decide +kernel, by decide +kernel⟩
set_option maxHeartbeats 4000000 in
theorem v__law_read_fact (B : Blt mg) (R : Raw K mg "_law_read_fact" s__law_read_fact ["_law_text_here"]) (d__law_is_good_fact : DefOk P w K mg base "_law_is_good_fact" 3 ["_law_fact"] 1 m__law_is_good_fact) : DefOk P w K mg base "_law_read_fact" 4 ["_law_text_here"] 1 m__law_read_fact := by
  have nd := sc__law_read_fact.nd
  refine def_v N__law_read_fact b__law_read_fact R sc__law_read_fact rfl rfl (fun f cdv A outer s H E hr tk po => ?_)
  exact (vb_cons (vs_set 1 nd (ve_split (fla := true) (flb := true) (ve_v 0) ve_str))
      (vb_cons (vs_if (vt_w (vw_or (vt_cmp (fla := true) (flb := true) (op_eqD hr.units) (nomark _) of_eq (ve_ix (flb := true) (ru1 hr) (ve_v 1) ve_int) ve_str) (vw_or1 (vt_cmp (fla := true) (flb := true) (op_eqD hr.units) (nomark _) of_eq (ve_ix (flb := true) (ru1 hr) (ve_v 1) ve_int) ve_str)))) (vb_cons (vs_set 3 nd (ve_tup (va_cons (ve_ix (flb := true) (ru1 hr) (ve_v 1) ve_int) (va_cons (ve_ty call_tuple_of cf_tuple B.tuple (by decide +kernel) (va_cons (ve_sl (ve_v 1) (vo_some (fl := true) ve_int) vo_none) va_nil)) va_nil))))
      (vb_cons (vs_if (vt_val (fl := true) (ve_def d__law_is_good_fact tk (hr.mono (by decide)) (va_cons (ve_v 3) va_nil) rfl (la_cons la_nil))) (vb_one (vs_ret (ve_v 3))) vb_nil)
      (vb_one (vs_ret ve_non)))) vb_nil)
      (vb_cons (vs_lcSet 2 (own := [("_law_at", 4)]) rfl nd (vi_range1 (fl := true) B.range (va_cons (ve_bi (fla := true) call_len cf_len B.len PySem.boot_len (va_cons (ve_v 1) va_nil)) va_nil)) (blkOk_by (N := N__law_read_fact) (sc := defScope s__law_read_fact) (by decide +kernel)) (fun _ _ _ _ _ => (vgc_n 4 (by decide) nd)) (fun _ _ _ _ _ => (vts_one (vt_cmp (fla := true) (flb := true) (op_eqD hr.units) (nomark _) of_eq (ve_ix (flb := true) (ru1 hr) (ve_v 1) (ve_v 4)) ve_str))) (fun _ _ _ _ _ => (ve_v 4)))
      (vb_cons (vs_if (vt_w (vw_or (vt_cmp (fla := true) (flb := true) (op_neD hr.units) (nomark _) of_ne (ve_bi (fla := true) call_len cf_len B.len PySem.boot_len (va_cons (ve_v 2) va_nil)) ve_int) (vw_or1 (vt_cmp (fla := true) (flb := true) (op_eqD hr.units) (nomark _) of_eq (ve_ix (flb := true) (ru1 hr) (ve_v 2) ve_int) ve_int)))) (vb_one (vs_ret ve_non)) vb_nil)
      (vb_cons (vs_set 3 nd (ve_tup (va_cons (ve_ix (flb := true) (ru1 hr) (ve_v 1) ve_int) (va_cons (ve_ty call_tuple_of cf_tuple B.tuple (by decide +kernel) (va_cons (ve_sl (ve_v 1) (vo_some (fl := true) ve_int) (vo_some (fl := true) (ve_ix (flb := true) (ru1 hr) (ve_v 2) ve_int))) va_nil)) (va_cons (ve_ty call_tuple_of cf_tuple B.tuple (by decide +kernel) (va_cons (ve_sl (ve_v 1) (vo_some (fl := true) (ve_op op_addA of_add (ve_ix (flb := true) (ru1 hr) (ve_v 2) ve_int) ve_int)) vo_none) va_nil)) va_nil)))))
      (vb_cons (vs_if (vt_val (fl := true) (ve_def d__law_is_good_fact tk (hr.mono (by decide)) (va_cons (ve_v 3) va_nil) rfl (la_cons la_nil))) (vb_one (vs_ret (ve_v 3))) vb_nil)
      (vb_one (vs_ret ve_non))))))))
abbrev N__law_all : List Str := ["_law_text_here", "_law_due", "_law_bad", "_law_lines", "_law_at", "_law_e", "_law_told", "_law_fact"]
theorem sc__law_all : FnScope N__law_all ["_law_text_here"] (defScope s__law_all) := ⟨rfl, rfl, rfl, by decide +kernel, rfl, by decide +kernel, by decide +kernel⟩
set_option maxHeartbeats 4000000 in
theorem v__law_all (B : Blt mg) (R : Raw K mg "_law_all" s__law_all ["_law_text_here"]) {A_BadLine : Addr} (g_BadLine : mg "BadLine" = some (.ref A_BadLine)) (H_BadLine : ∀ c b, ([("BadRun", false), ("BadLine", true)] : List (Str × Bool)).lookup c = some b → ∃ C, mg c = some C ∧ PySem.W.exmOne K C (.ref A_BadLine) = some b) (c__law_refused_line : DefOkC P w K mg base "_law_refused_line" 2 ["_law_e", "_law_line"] 2 m__law_refused_line) (e__law_read_fact : DefOk2 P w K mg base "_law_read_fact" 4 ["_law_text_here"] 1 m__law_read_fact) (e_read_book : DefOk2 P w K mg base "read_book" 7 ["text"] 1 m_read_book) (e__law_same_facts : DefOk2 P w K mg base "_law_same_facts" 3 ["_law_told", "_law_due"] 2 m__law_same_facts) : DefOk2 P w K mg base "_law_all" 8 ["_law_text_here"] 1 m__law_all := by
  have nd := sc__law_all.nd
  refine def_v2 N__law_all b__law_all R sc__law_all rfl rfl (fun f cdv A outer s H E hr tk po => ?_)
  exact (vb_cons (vs_own 1 nd (vf_lst va_nil))
      (vb_cons (vs_own 2 nd (vf_lst va_nil))
      (vb_cons (vs_set 3 nd (ve_split (fla := true) (flb := true) (ve_v 0) ve_str))
      (vb_cons (vs_for po rfl (vi_range1 (fl := true) B.range (va_cons (ve_bi (fla := true) call_len cf_len B.len PySem.boot_len (va_cons (ve_v 3) va_nil)) va_nil)) (vg_n 4 nd) (vb_one (vs_if (vt_w (vw_and (vt_cmp (fla := true) (flb := true) (op_neD hr.units) (nomark _) of_ne (ve_ix (flb := true) (ru1 hr) (ve_v 3) (ve_v 4)) ve_str) (vw_and1 (vt_cmp (fla := true) (flb := true) (op_neD hr.units) (nomark _) of_ne (ve_ix (flb := true) (ru1 hr) (ve_ix (flb := true) (ru1 hr) (ve_v 3) (ve_v 4)) ve_int) ve_str)))) (vb_cons (vs_set 7 nd (ve_def2 e__law_read_fact tk (hr.mono (by decide)) (va_cons (ve_ix (flb := true) (ru1 hr) (ve_v 3) (ve_v 4)) va_nil) rfl (la_cons la_nil)))
      (vb_cons (vs_if (vt_cmp (fla := true) (flb := true) op_isN (nomark _) of_isN (ve_v 7) ve_non) (vb_one (vs_app 2 (ve_op op_addA of_add (ve_v 4) ve_int))) vb_nil)
      (vb_one (vs_app 1 (ve_v 7))))) vb_nil)))
      (vb_cons (vs_tryL tk rfl rfl nd (fun W pn xe tk po => (vb_one (vs_set 6 nd (ve_def2 e_read_book tk (hr.mono (by decide)) (va_cons (ve_v 0) va_nil) rfl (la_cons la_nil))))) (.named (cat := [("BadRun", false), ("BadLine", true)]) (i := 5) ⟨rfl, by decide, Or.inl g_BadLine⟩ H_BadLine rfl rfl (fun a pn => (vb_one (vs_ret (ve_and (fla := true) (ve_cmp (fla := false) (flb := true) (op_neD (rhu (rhm hr (some (.ref a))))) (nomark _) of_ne (ve_b 2) (ve_lst va_nil)) (ve_one (ve_defC c__law_refused_line tkW0 ((rhm hr (some (.ref a))).mono (by decide)) (va_cons (ve_v 5) (va_cons (ve_ixo 2 (flb := true) (rh1 (rhm hr (some (.ref a)))) ve_int) va_nil)) rfl (la_cons (la_cons la_nil)))))))) .nil))
      (vb_one (vs_ret (ve_imm (ve_and (fla := true) (ve_cmp (fla := false) (flb := true) (op_eqD hr.units) (nomark _) of_eq (ve_b 2) (ve_lst va_nil)) (ve_one (ve_defb2 e__law_same_facts tk (hr.mono (by decide)) (va_cons (ve_v 6) (va_cons (ve_b 1) va_nil)) rfl (la_cons (la_cons la_nil)))))))))))))
abbrev N_law : List Str := ["_law_script", "_law_patches", "_law_starts", "_law_fact", "_law_text_here", "_law_line", "_law_run", "_law_lines", "_law_at", "_law_whole", "_law_turn", "_law_one_here"]
theorem sc_law : FnScope N_law ["_law_script"] (defScope s_law) := ⟨rfl, rfl, rfl, by decide +kernel, rfl, by decide +kernel, by decide +kernel⟩
set_option maxHeartbeats 4000000 in
theorem v_law (B : Blt mg) (R : Raw K mg "law" s_law ["_law_script"]) (e__law_names : DefOk2 P w K mg base "_law_names" 2 ["_law_script", "_law_k", "_law_many_here"] 3 m__law_names) (e__law_many : DefOk2 P w K mg base "_law_many" 2 ["_law_script", "_law_j"] 2 m__law_many) (e__law_raw_fact : DefOk2 P w K mg base "_law_raw_fact" 3 ["_law_script", "_law_k", "_law_starts", "_law_patches", "_law_most"] 5 m__law_raw_fact) (e__law_spoilt_text : DefOk2 P w K mg base "_law_spoilt_text" 2 ["_law_script", "_law_k", "_law_text_here"] 3 m__law_spoilt_text) (e__law_text : DefOk2 P w K mg base "_law_text" 1 ["_law_fact"] 1 m__law_text) (e__law_is_good_run : DefOk2 P w K mg base "_law_is_good_run" 2 ["_law_run"] 1 m__law_is_good_run) (e__law_draw : DefOk2 P w K mg base "_law_draw" 1 ["_law_script", "_law_k", "_law_j"] 3 m__law_draw) (e__law_one : DefOk2 P w K mg base "_law_one" 7 ["_law_text_here", "_law_due", "_law_run"] 3 m__law_one) (e__law_read_fact : DefOk2 P w K mg base "_law_read_fact" 4 ["_law_text_here"] 1 m__law_read_fact) (e__law_all : DefOk2 P w K mg base "_law_all" 8 ["_law_text_here"] 1 m__law_all) : LawOk2 P w K mg base "law" 9 ["_law_script"] 1 m_law := by
  have nd := sc_law.nd
  refine def_l2 N_law b_law R sc_law rfl rfl (fun f cdv A outer s H E hr tk po => ?_)
  exact (vb_cons (vs_set 1 nd (ve_def2 e__law_names tk (hr.mono (by decide)) (va_cons (ve_v 0) (va_cons ve_int (va_cons (ve_def2 e__law_many tk (hr.mono (by decide)) (va_cons (ve_v 0) (va_cons ve_int va_nil)) rfl (la_cons (la_cons la_nil))) va_nil))) rfl (la_cons (la_cons (la_cons la_nil)))))
      (vb_cons (vs_set 2 nd (ve_def2 e__law_names tk (hr.mono (by decide)) (va_cons (ve_v 0) (va_cons ve_int (va_cons (ve_def2 e__law_many tk (hr.mono (by decide)) (va_cons (ve_v 0) (va_cons ve_int va_nil)) rfl (la_cons (la_cons la_nil))) va_nil))) rfl (la_cons (la_cons (la_cons la_nil)))))
      (vb_cons (vs_set 3 nd (ve_def2 e__law_raw_fact tk (hr.mono (by decide)) (va_cons (ve_v 0) (va_cons ve_int (va_cons (ve_v 2) (va_cons (ve_v 1) (va_cons ve_int va_nil))))) rfl (la_cons (la_cons (la_cons (la_cons (la_cons la_nil)))))))
      (vb_cons (vs_set 4 nd (ve_def2 e__law_spoilt_text tk (hr.mono (by decide)) (va_cons (ve_v 0) (va_cons ve_int (va_cons (ve_def2 e__law_text tk (hr.mono (by decide)) (va_cons (ve_v 3) va_nil) rfl (la_cons la_nil)) va_nil))) rfl (la_cons (la_cons (la_cons la_nil)))))
      (vb_cons (vs_set 5 nd (ve_sl (ve_def2 e__law_text tk (hr.mono (by decide)) (va_cons (ve_tup (va_cons ve_str (va_cons (ve_ix (flb := true) (ru1 hr) (ve_v 3) ve_int) va_nil))) va_nil) rfl (la_cons la_nil)) (vo_some (fl := true) ve_int) vo_none))
      (vb_cons (vs_set 5 nd (ve_def2 e__law_spoilt_text tk (hr.mono (by decide)) (va_cons (ve_v 0) (va_cons ve_int (va_cons (ve_v 5) va_nil))) rfl (la_cons (la_cons (la_cons la_nil)))))
      (vb_cons (vs_set 6 nd (ve_ty call_tuple_of cf_tuple B.tuple (by decide +kernel) (va_cons (ve_split (fla := true) (flb := true) (ve_v 5) ve_str) va_nil)))
      (vb_cons (vs_if (vt_not (vt_val (fl := true) (ve_def2 e__law_is_good_run tk (hr.mono (by decide)) (va_cons (ve_v 6) va_nil) rfl (la_cons la_nil)))) (vb_one (vs_set 6 nd ve_non)) vb_nil)
      (vb_cons (vs_own 7 nd (vf_lst va_nil))
      (vb_cons (vs_for po rfl (vi_range1 (fl := true) B.range (va_cons (ve_op (fla := true) (flb := true) op_mod of_mod (ve_def2 e__law_draw tk (hr.mono (by decide)) (va_cons (ve_v 0) (va_cons ve_int (va_cons ve_int va_nil))) rfl (la_cons (la_cons (la_cons la_nil)))) ve_int) va_nil)) (vg_n 8 nd) (vb_cons (vs_set 11 nd (ve_def2 e__law_text tk (hr.mono (by decide)) (va_cons (ve_def2 e__law_raw_fact tk (hr.mono (by decide)) (va_cons (ve_v 0) (va_cons (ve_op op_addA of_add ve_int (ve_v 8)) (va_cons (ve_v 2) (va_cons (ve_v 1) (va_cons ve_int va_nil))))) rfl (la_cons (la_cons (la_cons (la_cons (la_cons la_nil)))))) va_nil) rfl (la_cons la_nil)))
      (vb_cons (vs_if (vt_cmp (fla := true) (flb := true) (op_eqD hr.units) (nomark _) of_eq (ve_op (fla := true) (flb := true) op_mod of_mod (ve_def2 e__law_draw tk (hr.mono (by decide)) (va_cons (ve_v 0) (va_cons (ve_op op_addA of_add ve_int (ve_v 8)) (va_cons ve_int va_nil))) rfl (la_cons (la_cons (la_cons la_nil)))) ve_int) ve_int) (vb_one (vs_set 11 nd (ve_def2 e__law_spoilt_text tk (hr.mono (by decide)) (va_cons (ve_v 0) (va_cons (ve_op op_addA of_add ve_int (ve_v 8)) (va_cons (ve_v 11) va_nil))) rfl (la_cons (la_cons (la_cons la_nil)))))) vb_nil)
      (vb_one (vs_app 7 (ve_v 11))))))
      (vb_cons (vs_set 9 nd (ve_join (fla := true) (flb := false) ve_str (ve_b 7)))
      (vb_cons (vs_for po rfl (vi_range1 (fl := true) B.range (va_cons ve_int va_nil)) (vg_n 10 nd) (vb_one (vs_if (vt_w (vw_or (vt_not (vt_val (fl := true) (ve_def2 e__law_one tk (hr.mono (by decide)) (va_cons (ve_v 4) (va_cons (ve_def2 e__law_read_fact tk (hr.mono (by decide)) (va_cons (ve_v 4) va_nil) rfl (la_cons la_nil)) (va_cons ve_bl va_nil))) rfl (la_cons (la_cons (la_cons la_nil)))))) (vw_or (vt_not (vt_val (fl := true) (ve_def2 e__law_one tk (hr.mono (by decide)) (va_cons (ve_v 5) (va_cons (ve_v 6) (va_cons ve_bl va_nil))) rfl (la_cons (la_cons (la_cons la_nil)))))) (vw_or1 (vt_not (vt_val (fl := true) (ve_def2 e__law_all tk (hr.mono (by decide)) (va_cons (ve_v 9) va_nil) rfl (la_cons la_nil)))))))) (vb_one (vs_ret ve_bl)) vb_nil)))
      (vb_one (vs_ret ve_bl))))))))))))))
end
theorem all_of {l : PySem.W.OpenLaw} {w : World} {K : PySem.W.Frag} {h : Heap} {mg : Str → Option Value} {fa : Addr} (X : K.In h) (G : h.Ns mainGlobals mg) (hfa : mg "law" = some (.ref fa)) (T : SaysT tops w.params K) :
    ∃ fd : FuncData, PySem.W.CodeHd h (cT K "read_book") 214 ∧ (∀ (s : Shared) (v : Value), BindsTo s fd ⟨[v], []⟩ [("_law_script", v)]) ∧ ∀ base : Heap, K.In base → base.Ns mainGlobals mg → LamX.TabB base mg (cT K "read_book") 214 → FnOk l.prog w K mg base (L2.CX l.prog w) 9 fa fd ["_law_script"] (spEnd K) := by
  obtain ⟨oc0, od0, sl0, kV0, dc0, pm0, an0, cd0, ct0, l0, c0, k0⟩ : FnAt K (gA K "_law_draw") "_law_draw" "_law_draw" s__law_draw := T.defn 0 (d := ⟨fun K => (gA K "_law_draw"), "_law_draw", "_law_draw", s__law_draw⟩) rfl
  obtain ⟨oc1, od1, sl1, kV1, dc1, pm1, an1, cd1, ct1, l1, c1, k1⟩ : FnAt K (gA K "_law_names") "_law_names" "_law_names" s__law_names := T.defn 1 (d := ⟨fun K => (gA K "_law_names"), "_law_names", "_law_names", s__law_names⟩) rfl
  obtain ⟨oc2, od2, sl2, kV2, dc2, pm2, an2, cd2, ct2, l2, c2, k2⟩ : FnAt K (gA K "_law_raw_run") "_law_raw_run" "_law_raw_run" s__law_raw_run := T.defn 2 (d := ⟨fun K => (gA K "_law_raw_run"), "_law_raw_run", "_law_raw_run", s__law_raw_run⟩) rfl
  obtain ⟨oc3, od3, sl3, kV3, dc3, pm3, an3, cd3, ct3, l3, c3, k3⟩ : FnAt K (gA K "_law_raw_fact") "_law_raw_fact" "_law_raw_fact" s__law_raw_fact := T.defn 3 (d := ⟨fun K => (gA K "_law_raw_fact"), "_law_raw_fact", "_law_raw_fact", s__law_raw_fact⟩) rfl
  obtain ⟨oc4, od4, sl4, kV4, dc4, pm4, an4, cd4, ct4, l4, c4, k4⟩ : FnAt K (gA K "_law_char") "_law_char" "_law_char" s__law_char := T.defn 4 (d := ⟨fun K => (gA K "_law_char"), "_law_char", "_law_char", s__law_char⟩) rfl
  obtain ⟨oc5, od5, sl5, kV5, dc5, pm5, an5, cd5, ct5, l5, c5, k5⟩ : FnAt K (gA K "_law_spoilt_text") "_law_spoilt_text" "_law_spoilt_text" s__law_spoilt_text := T.defn 5 (d := ⟨fun K => (gA K "_law_spoilt_text"), "_law_spoilt_text", "_law_spoilt_text", s__law_spoilt_text⟩) rfl
  obtain ⟨oc6, od6, sl6, kV6, dc6, pm6, an6, cd6, ct6, l6, c6, k6⟩ : FnAt K (gA K "_law_many") "_law_many" "_law_many" s__law_many := T.defn 6 (d := ⟨fun K => (gA K "_law_many"), "_law_many", "_law_many", s__law_many⟩) rfl
  obtain ⟨oc7, od7, sl7, kV7, dc7, pm7, an7, cd7, ct7, l7, c7, k7⟩ : FnAt K (gA K "_law_text") "_law_text" "_law_text" s__law_text := T.defn 7 (d := ⟨fun K => (gA K "_law_text"), "_law_text", "_law_text", s__law_text⟩) rfl
  obtain ⟨oc8, od8, sl8, kV8, dc8, pm8, an8, cd8, ct8, l8, c8, k8⟩ : FnAt K (gA K "_law_is_name") "_law_is_name" "_law_is_name" s__law_is_name := T.defn 8 (d := ⟨fun K => (gA K "_law_is_name"), "_law_is_name", "_law_is_name", s__law_is_name⟩) rfl
  obtain ⟨oc9, od9, sl9, kV9, dc9, pm9, an9, cd9, ct9, l9, c9, k9⟩ : FnAt K (gA K "_law_is_good_run") "_law_is_good_run" "_law_is_good_run" s__law_is_good_run := T.defn 9 (d := ⟨fun K => (gA K "_law_is_good_run"), "_law_is_good_run", "_law_is_good_run", s__law_is_good_run⟩) rfl
  obtain ⟨oc10, od10, sl10, kV10, dc10, pm10, an10, cd10, ct10, l10, c10, k10⟩ : FnAt K (gA K "_law_is_run") "_law_is_run" "_law_is_run" s__law_is_run := T.defn 10 (d := ⟨fun K => (gA K "_law_is_run"), "_law_is_run", "_law_is_run", s__law_is_run⟩) rfl
  obtain ⟨oc11, od11, sl11, kV11, dc11, pm11, an11, cd11, ct11, l11, c11, k11⟩ : FnAt K (gA K "_law_is_fact") "_law_is_fact" "_law_is_fact" s__law_is_fact := T.defn 11 (d := ⟨fun K => (gA K "_law_is_fact"), "_law_is_fact", "_law_is_fact", s__law_is_fact⟩) rfl
  obtain ⟨oc12, od12, sl12, kV12, dc12, pm12, an12, cd12, ct12, l12, c12, k12⟩ : FnAt K (gA K "is_name") "is_name" "is_name" s_is_name := T.defn 12 (d := ⟨fun K => (gA K "is_name"), "is_name", "is_name", s_is_name⟩) rfl
  obtain ⟨oc13, od13, sl13, kV13, dc13, pm13, an13, cd13, ct13, l13, c13, k13⟩ : FnAt K (gA K "is_step") "is_step" "is_step" s_is_step := T.defn 13 (d := ⟨fun K => (gA K "is_step"), "is_step", "is_step", s_is_step⟩) rfl
  obtain ⟨oc14, od14, sl14, kV14, dc14, pm14, an14, cd14, ct14, l14, c14, k14⟩ : FnAt K (gA K "check_run") "check_run" "check_run" s_check_run := T.defn 14 (d := ⟨fun K => (gA K "check_run"), "check_run", "check_run", s_check_run⟩) rfl
  obtain ⟨oc15, od15, sl15, kV15, dc15, pm15, an15, cd15, ct15, l15, c15, k15⟩ : FnAt K (gA K "run_of") "run_of" "run_of" s_run_of := T.defn 15 (d := ⟨fun K => (gA K "run_of"), "run_of", "run_of", s_run_of⟩) rfl
  obtain ⟨oc16, od16, sl16, kV16, dc16, pm16, an16, cd16, ct16, l16, c16, k16⟩ : FnAt K (gA K "read_run") "read_run" "read_run" s_read_run := T.defn 16 (d := ⟨fun K => (gA K "read_run"), "read_run", "read_run", s_read_run⟩) rfl
  obtain ⟨oc17, od17, sl17, kV17, dc17, pm17, an17, cd17, ct17, l17, c17, k17⟩ : FnAt K (gA K "fact_of") "fact_of" "fact_of" s_fact_of := T.defn 17 (d := ⟨fun K => (gA K "fact_of"), "fact_of", "fact_of", s_fact_of⟩) rfl
  obtain ⟨oc18, od18, sl18, kV18, dc18, pm18, an18, cd18, ct18, l18, c18, k18⟩ : FnAt K (gA K "read_fact") "read_fact" "read_fact" s_read_fact := T.defn 18 (d := ⟨fun K => (gA K "read_fact"), "read_fact", "read_fact", s_read_fact⟩) rfl
  obtain ⟨oc19, od19, sl19, kV19, dc19, pm19, an19, cd19, ct19, l19, c19, k19⟩ : FnAt K (gA K "_law_is_integer") "_law_is_integer" "_law_is_integer" s__law_is_integer := T.defn 19 (d := ⟨fun K => (gA K "_law_is_integer"), "_law_is_integer", "_law_is_integer", s__law_is_integer⟩) rfl
  obtain ⟨oc20, od20, sl20, kV20, dc20, pm20, an20, cd20, ct20, l20, c20, k20⟩ : FnAt K (gA K "_law_refused_line") "_law_refused_line" "_law_refused_line" s__law_refused_line := T.defn 20 (d := ⟨fun K => (gA K "_law_refused_line"), "_law_refused_line", "_law_refused_line", s__law_refused_line⟩) rfl
  obtain ⟨oc21, od21, sl21, kV21, dc21, pm21, an21, cd21, ct21, l21, c21, k21⟩ : FnAt K (gA K "_law_one") "_law_one" "_law_one" s__law_one := T.defn 21 (d := ⟨fun K => (gA K "_law_one"), "_law_one", "_law_one", s__law_one⟩) rfl
  obtain ⟨oc22, od22, sl22, kV22, dc22, pm22, an22, cd22, ct22, l22, c22, k22⟩ : FnAt K (gA K "read_book") "read_book" "read_book" s_read_book := T.defn 22 (d := ⟨fun K => (gA K "read_book"), "read_book", "read_book", s_read_book⟩) rfl
  obtain ⟨oc23, od23, sl23, kV23, dc23, pm23, an23, cd23, ct23, l23, c23, k23⟩ : FnAt K (gA K "_law_same_facts") "_law_same_facts" "_law_same_facts" s__law_same_facts := T.defn 23 (d := ⟨fun K => (gA K "_law_same_facts"), "_law_same_facts", "_law_same_facts", s__law_same_facts⟩) rfl
  obtain ⟨oc24, od24, sl24, kV24, dc24, pm24, an24, cd24, ct24, l24, c24, k24⟩ : FnAt K (gA K "_law_is_good_fact") "_law_is_good_fact" "_law_is_good_fact" s__law_is_good_fact := T.defn 24 (d := ⟨fun K => (gA K "_law_is_good_fact"), "_law_is_good_fact", "_law_is_good_fact", s__law_is_good_fact⟩) rfl
  obtain ⟨oc25, od25, sl25, kV25, dc25, pm25, an25, cd25, ct25, l25, c25, k25⟩ : FnAt K (gA K "_law_read_fact") "_law_read_fact" "_law_read_fact" s__law_read_fact := T.defn 25 (d := ⟨fun K => (gA K "_law_read_fact"), "_law_read_fact", "_law_read_fact", s__law_read_fact⟩) rfl
  obtain ⟨oc26, od26, sl26, kV26, dc26, pm26, an26, cd26, ct26, l26, c26, k26⟩ : FnAt K (gA K "_law_all") "_law_all" "_law_all" s__law_all := T.defn 26 (d := ⟨fun K => (gA K "_law_all"), "_law_all", "_law_all", s__law_all⟩) rfl
  obtain ⟨oc27, od27, sl27, kV27, dc27, pm27, an27, cd27, ct27, l27, c27, k27⟩ : FnAt K (gA K "law") "law" "law" s_law := T.defn 27 (d := ⟨fun K => (gA K "law"), "law", "law", s_law⟩) rfl
  obtain ⟨nm_BadRun, qn_BadRun, N_BadRun, bs_BadRun, bm_BadRun, sn_BadRun, sb_BadRun, ab_BadRun, co_BadRun, dd_BadRun, m0_BadRun, m1_BadRun, m2_BadRun, m3_BadRun, m5_BadRun, xl_BadRun, xr_BadRun⟩ : ExAt K (gA K "BadRun") := xT_ok (T.test 0 rfl)
  obtain ⟨oc_BadRun, od_BadRun, sl_BadRun, kV_BadRun, dc_BadRun, pm_BadRun, an_BadRun, cd_BadRun, ct_BadRun, xj_BadRun, xq_BadRun, xp_BadRun⟩ : FnAt K (mA K (gA K "BadRun") "__init__") "__init__" "BadRun.__init__" (inClass (topS 2) 0) := T.defn 28 (d := ⟨fun K => (mA K (gA K "BadRun") "__init__"), "__init__", "BadRun.__init__", (inClass (topS 2) 0)⟩) rfl
  obtain ⟨nm_BadLine, qn_BadLine, N_BadLine, bs_BadLine, bm_BadLine, sn_BadLine, sb_BadLine, ab_BadLine, co_BadLine, dd_BadLine, m0_BadLine, m1_BadLine, m2_BadLine, m3_BadLine, m5_BadLine, xl_BadLine, xr_BadLine⟩ : ExAt K (gA K "BadLine") := xT_ok (T.test 1 rfl)
  obtain ⟨oc_BadLine, od_BadLine, sl_BadLine, kV_BadLine, dc_BadLine, pm_BadLine, an_BadLine, cd_BadLine, ct_BadLine, xj_BadLine, xq_BadLine, xp_BadLine⟩ : FnAt K (mA K (gA K "BadLine") "__init__") "__init__" "BadLine.__init__" (inClass (topS 8) 0) := T.defn 29 (d := ⟨fun K => (mA K (gA K "BadLine") "__init__"), "__init__", "BadLine.__init__", (inClass (topS 8) 0)⟩) rfl
  have a0 : PySem.W.nsIn K mainGlobals "_law_draw" = some (some (.ref (gA K "_law_draw"))) := tR_ok (T.test 2 rfl)
  have a1 : PySem.W.nsIn K mainGlobals "_law_names" = some (some (.ref (gA K "_law_names"))) := tR_ok (T.test 3 rfl)
  have a2 : PySem.W.nsIn K mainGlobals "_law_raw_run" = some (some (.ref (gA K "_law_raw_run"))) := tR_ok (T.test 4 rfl)
  have a3 : PySem.W.nsIn K mainGlobals "_law_raw_fact" = some (some (.ref (gA K "_law_raw_fact"))) := tR_ok (T.test 5 rfl)
  have a4 : PySem.W.nsIn K mainGlobals "_law_char" = some (some (.ref (gA K "_law_char"))) := tR_ok (T.test 6 rfl)
  have a5 : PySem.W.nsIn K mainGlobals "_law_spoilt_text" = some (some (.ref (gA K "_law_spoilt_text"))) := tR_ok (T.test 7 rfl)
  have a6 : PySem.W.nsIn K mainGlobals "_law_many" = some (some (.ref (gA K "_law_many"))) := tR_ok (T.test 8 rfl)
  have a7 : PySem.W.nsIn K mainGlobals "_law_text" = some (some (.ref (gA K "_law_text"))) := tR_ok (T.test 9 rfl)
  have a8 : PySem.W.nsIn K mainGlobals "_law_is_name" = some (some (.ref (gA K "_law_is_name"))) := tR_ok (T.test 10 rfl)
  have a9 : PySem.W.nsIn K mainGlobals "_law_is_good_run" = some (some (.ref (gA K "_law_is_good_run"))) := tR_ok (T.test 11 rfl)
  have a10 : PySem.W.nsIn K mainGlobals "_law_is_run" = some (some (.ref (gA K "_law_is_run"))) := tR_ok (T.test 12 rfl)
  have a11 : PySem.W.nsIn K mainGlobals "_law_is_fact" = some (some (.ref (gA K "_law_is_fact"))) := tR_ok (T.test 13 rfl)
  have a12 : PySem.W.nsIn K mainGlobals "is_name" = some (some (.ref (gA K "is_name"))) := tR_ok (T.test 14 rfl)
  have a13 : PySem.W.nsIn K mainGlobals "is_step" = some (some (.ref (gA K "is_step"))) := tR_ok (T.test 15 rfl)
  have a14 : PySem.W.nsIn K mainGlobals "check_run" = some (some (.ref (gA K "check_run"))) := tR_ok (T.test 16 rfl)
  have a15 : PySem.W.nsIn K mainGlobals "run_of" = some (some (.ref (gA K "run_of"))) := tR_ok (T.test 17 rfl)
  have a16 : PySem.W.nsIn K mainGlobals "read_run" = some (some (.ref (gA K "read_run"))) := tR_ok (T.test 18 rfl)
  have a17 : PySem.W.nsIn K mainGlobals "fact_of" = some (some (.ref (gA K "fact_of"))) := tR_ok (T.test 19 rfl)
  have a18 : PySem.W.nsIn K mainGlobals "read_fact" = some (some (.ref (gA K "read_fact"))) := tR_ok (T.test 20 rfl)
  have a19 : PySem.W.nsIn K mainGlobals "_law_is_integer" = some (some (.ref (gA K "_law_is_integer"))) := tR_ok (T.test 21 rfl)
  have a20 : PySem.W.nsIn K mainGlobals "_law_refused_line" = some (some (.ref (gA K "_law_refused_line"))) := tR_ok (T.test 22 rfl)
  have a21 : PySem.W.nsIn K mainGlobals "_law_one" = some (some (.ref (gA K "_law_one"))) := tR_ok (T.test 23 rfl)
  have a22 : PySem.W.nsIn K mainGlobals "read_book" = some (some (.ref (gA K "read_book"))) := tR_ok (T.test 24 rfl)
  have a23 : PySem.W.nsIn K mainGlobals "_law_same_facts" = some (some (.ref (gA K "_law_same_facts"))) := tR_ok (T.test 25 rfl)
  have a24 : PySem.W.nsIn K mainGlobals "_law_is_good_fact" = some (some (.ref (gA K "_law_is_good_fact"))) := tR_ok (T.test 26 rfl)
  have a25 : PySem.W.nsIn K mainGlobals "_law_read_fact" = some (some (.ref (gA K "_law_read_fact"))) := tR_ok (T.test 27 rfl)
  have a26 : PySem.W.nsIn K mainGlobals "_law_all" = some (some (.ref (gA K "_law_all"))) := tR_ok (T.test 28 rfl)
  have a27 : PySem.W.nsIn K mainGlobals "law" = some (some (.ref (gA K "law"))) := tR_ok (T.test 29 rfl)
  have z0 : PySem.W.nsIn K mainGlobals "int" = some none := tN_ok (T.test 30 rfl)
  have z1 : PySem.W.nsIn K mainGlobals "len" = some none := tN_ok (T.test 31 rfl)
  have z2 : PySem.W.nsIn K mainGlobals "range" = some none := tN_ok (T.test 32 rfl)
  have z3 : PySem.W.nsIn K mainGlobals "isinstance" = some none := tN_ok (T.test 33 rfl)
  have z4 : PySem.W.nsIn K mainGlobals "tuple" = some none := tN_ok (T.test 34 rfl)
  have z5 : PySem.W.nsIn K mainGlobals "str" = some none := tN_ok (T.test 35 rfl)
  have z6 : PySem.W.nsIn K mainGlobals "bool" = some none := tN_ok (T.test 36 rfl)
  have z7 : PySem.W.nsIn K mainGlobals "ValueError" = some none := tN_ok (T.test 37 rfl)
  have z8 : PySem.W.nsIn K mainGlobals "list" = some none := tN_ok (T.test 38 rfl)
  have uC0 : PySem.W.nsIn K mainGlobals "LONGEST_NAME" = some (some (.int 12 (kT (PySem.W.nsIn K mainGlobals "LONGEST_NAME")))) := tI_ok (T.test 39 rfl)
  have uC1 : PySem.W.nsIn K mainGlobals "LETTERS" = some (some (.str "abcdefghijklmnopqrstuvwxyz" (kT (PySem.W.nsIn K mainGlobals "LETTERS")))) := tS_ok (T.test 40 rfl)
  have uC2 : PySem.W.nsIn K mainGlobals "DIGITS" = some (some (.str "0123456789" (kT (PySem.W.nsIn K mainGlobals "DIGITS")))) := tS_ok (T.test 41 rfl)
  have tb0 : PySem.W.tabIn K "read_book" = some (cT K "read_book", 214) := tTab_ok (T.test 42 rfl)
  have tb1 : PySem.W.codeHdIn K (cT K "read_book") 214 = true := T.test 43 rfl
  have xa_BadRun : PySem.W.nsIn K mainGlobals "BadRun" = some (some (.ref (gA K "BadRun"))) := tR_ok (T.test 44 rfl)
  have xe_BadRun : PySem.W.subIn K (.ref (gA K "BadRun")) (.type "BaseException") = some true := tO_ok (T.test 45 rfl)
  have xt_BadRun : PySem.W.typeIn K (.ref (gA K "BadRun")) = some (.type "type") := tT_ok (T.test 46 rfl)
  have xc_BadRun : PySem.W.isClsIn K (gA K "BadRun") = true := T.test 47 rfl
  have ys_BadRun : PySem.W.subIn K (.ref (gA K "BadRun")) (.ref (gA K "BadRun")) = some true := tO_ok (T.test 48 rfl)
  have xa_BadLine : PySem.W.nsIn K mainGlobals "BadLine" = some (some (.ref (gA K "BadLine"))) := tR_ok (T.test 49 rfl)
  have xe_BadLine : PySem.W.subIn K (.ref (gA K "BadLine")) (.type "BaseException") = some true := tO_ok (T.test 50 rfl)
  have xt_BadLine : PySem.W.typeIn K (.ref (gA K "BadLine")) = some (.type "type") := tT_ok (T.test 51 rfl)
  have xc_BadLine : PySem.W.isClsIn K (gA K "BadLine") = true := T.test 52 rfl
  have ys_BadLine : PySem.W.subIn K (.ref (gA K "BadLine")) (.ref (gA K "BadLine")) = some true := tO_ok (T.test 53 rfl)
  have xa_PatchError : PySem.W.nsIn K mainGlobals "PatchError" = some (some (.ref (gA K "PatchError"))) := tR_ok (T.test 54 rfl)
  have xe_PatchError : PySem.W.subIn K (.ref (gA K "PatchError")) (.type "BaseException") = some true := tO_ok (T.test 55 rfl)
  have xt_PatchError : PySem.W.typeIn K (.ref (gA K "PatchError")) = some (.type "type") := tT_ok (T.test 56 rfl)
  have xc_PatchError : PySem.W.isClsIn K (gA K "PatchError") = true := T.test 57 rfl
  have ys_PatchError : PySem.W.subIn K (.ref (gA K "PatchError")) (.ref (gA K "PatchError")) = some true := tO_ok (T.test 58 rfl)
  have xa_BadFact : PySem.W.nsIn K mainGlobals "BadFact" = some (some (.ref (gA K "BadFact"))) := tR_ok (T.test 59 rfl)
  have xe_BadFact : PySem.W.subIn K (.ref (gA K "BadFact")) (.type "BaseException") = some true := tO_ok (T.test 60 rfl)
  have xt_BadFact : PySem.W.typeIn K (.ref (gA K "BadFact")) = some (.type "type") := tT_ok (T.test 61 rfl)
  have xc_BadFact : PySem.W.isClsIn K (gA K "BadFact") = true := T.test 62 rfl
  have ys_BadFact : PySem.W.subIn K (.ref (gA K "BadFact")) (.ref (gA K "BadFact")) = some true := tO_ok (T.test 63 rfl)
  have xa_BadStore : PySem.W.nsIn K mainGlobals "BadStore" = some (some (.ref (gA K "BadStore"))) := tR_ok (T.test 64 rfl)
  have xe_BadStore : PySem.W.subIn K (.ref (gA K "BadStore")) (.type "BaseException") = some true := tO_ok (T.test 65 rfl)
  have xt_BadStore : PySem.W.typeIn K (.ref (gA K "BadStore")) = some (.type "type") := tT_ok (T.test 66 rfl)
  have xc_BadStore : PySem.W.isClsIn K (gA K "BadStore") = true := T.test 67 rfl
  have ys_BadStore : PySem.W.subIn K (.ref (gA K "BadStore")) (.ref (gA K "BadStore")) = some true := tO_ok (T.test 68 rfl)
  have xa_UnknownStart : PySem.W.nsIn K mainGlobals "UnknownStart" = some (some (.ref (gA K "UnknownStart"))) := tR_ok (T.test 69 rfl)
  have xe_UnknownStart : PySem.W.subIn K (.ref (gA K "UnknownStart")) (.type "BaseException") = some true := tO_ok (T.test 70 rfl)
  have xt_UnknownStart : PySem.W.typeIn K (.ref (gA K "UnknownStart")) = some (.type "type") := tT_ok (T.test 71 rfl)
  have xc_UnknownStart : PySem.W.isClsIn K (gA K "UnknownStart") = true := T.test 72 rfl
  have ys_UnknownStart : PySem.W.subIn K (.ref (gA K "UnknownStart")) (.ref (gA K "UnknownStart")) = some true := tO_ok (T.test 73 rfl)
  have xa_NoStore : PySem.W.nsIn K mainGlobals "NoStore" = some (some (.ref (gA K "NoStore"))) := tR_ok (T.test 74 rfl)
  have xe_NoStore : PySem.W.subIn K (.ref (gA K "NoStore")) (.type "BaseException") = some true := tO_ok (T.test 75 rfl)
  have xt_NoStore : PySem.W.typeIn K (.ref (gA K "NoStore")) = some (.type "type") := tT_ok (T.test 76 rfl)
  have xc_NoStore : PySem.W.isClsIn K (gA K "NoStore") = true := T.test 77 rfl
  have ys_NoStore : PySem.W.subIn K (.ref (gA K "NoStore")) (.ref (gA K "NoStore")) = some true := tO_ok (T.test 78 rfl)
  have xa_NotForced : PySem.W.nsIn K mainGlobals "NotForced" = some (some (.ref (gA K "NotForced"))) := tR_ok (T.test 79 rfl)
  have xe_NotForced : PySem.W.subIn K (.ref (gA K "NotForced")) (.type "BaseException") = some true := tO_ok (T.test 80 rfl)
  have xt_NotForced : PySem.W.typeIn K (.ref (gA K "NotForced")) = some (.type "type") := tT_ok (T.test 81 rfl)
  have xc_NotForced : PySem.W.isClsIn K (gA K "NotForced") = true := T.test 82 rfl
  have ys_NotForced : PySem.W.subIn K (.ref (gA K "NotForced")) (.ref (gA K "NotForced")) = some true := tO_ok (T.test 83 rfl)
  have xa_NoFact : PySem.W.nsIn K mainGlobals "NoFact" = some (some (.ref (gA K "NoFact"))) := tR_ok (T.test 84 rfl)
  have xe_NoFact : PySem.W.subIn K (.ref (gA K "NoFact")) (.type "BaseException") = some true := tO_ok (T.test 85 rfl)
  have xt_NoFact : PySem.W.typeIn K (.ref (gA K "NoFact")) = some (.type "type") := tT_ok (T.test 86 rfl)
  have xc_NoFact : PySem.W.isClsIn K (gA K "NoFact") = true := T.test 87 rfl
  have ys_NoFact : PySem.W.subIn K (.ref (gA K "NoFact")) (.ref (gA K "NoFact")) = some true := tO_ok (T.test 88 rfl)
  have xk_BadRun : PySem.W.keepIn K (.ref (gA K "BadRun")) = true := T.test 89 rfl
  have xg_BadRun : PySem.W.findIn K (.ref (gA K "BadRun")) "__getattribute__" = some (some (.builtin "BaseException.__getattribute__")) := tB_ok (T.test 90 rfl)
  have xh_BadRun : PySem.W.findIn K (.ref (gA K "BadRun")) "__getattr__" = some none := tN_ok (T.test 91 rfl)
  have xd_BadRun : PySem.W.hasDictIn K (gA K "BadRun") = true := T.test 92 rfl
  have xo_BadRun : PySem.W.findIn K (.ref (gA K "BadRun")) "__class__" = some (some (.builtin "object.__class__")) := tB_ok (T.test 93 rfl)
  have xm_BadRun : PySem.W.mroIn K (gA K "BadRun") (.type "object") = some true := tO_ok (T.test 94 rfl)
  have xs_BadRun : PySem.W.findIn K (.ref (gA K "BadRun")) "__setattr__" = some (some (.builtin "object.__setattr__")) := tB_ok (T.test 95 rfl)
  have xi_BadRun : PySem.W.findIn K (.ref (gA K "BadRun")) "__init__" = some (some (.ref (mA K (gA K "BadRun") "__init__"))) := tR_ok (T.test 96 rfl)
  have xf_BadRun : PySem.W.typeIn K (.ref (mA K (gA K "BadRun") "__init__")) = some (.type "function") := tT_ok (T.test 97 rfl)
  have xn_BadRun_run : PySem.W.findIn K (.ref (gA K "BadRun")) "run" = some none := tN_ok (T.test 98 rfl)
  have yp_BadRun_PatchError : PySem.W.subIn K (.ref (gA K "BadRun")) (.ref (gA K "PatchError")) = some true := tO_ok (T.test 99 rfl)
  have yp_BadRun_BadFact : PySem.W.subIn K (.ref (gA K "BadRun")) (.ref (gA K "BadFact")) = some false := tO_ok (T.test 100 rfl)
  have yp_BadRun_BadStore : PySem.W.subIn K (.ref (gA K "BadRun")) (.ref (gA K "BadStore")) = some false := tO_ok (T.test 101 rfl)
  have yp_BadRun_UnknownStart : PySem.W.subIn K (.ref (gA K "BadRun")) (.ref (gA K "UnknownStart")) = some false := tO_ok (T.test 102 rfl)
  have yp_BadRun_NoStore : PySem.W.subIn K (.ref (gA K "BadRun")) (.ref (gA K "NoStore")) = some false := tO_ok (T.test 103 rfl)
  have yp_BadRun_NotForced : PySem.W.subIn K (.ref (gA K "BadRun")) (.ref (gA K "NotForced")) = some false := tO_ok (T.test 104 rfl)
  have yp_BadRun_NoFact : PySem.W.subIn K (.ref (gA K "BadRun")) (.ref (gA K "NoFact")) = some false := tO_ok (T.test 105 rfl)
  have yp_BadRun_BadLine : PySem.W.subIn K (.ref (gA K "BadRun")) (.ref (gA K "BadLine")) = some false := tO_ok (T.test 106 rfl)
  have xk_BadLine : PySem.W.keepIn K (.ref (gA K "BadLine")) = true := T.test 107 rfl
  have xg_BadLine : PySem.W.findIn K (.ref (gA K "BadLine")) "__getattribute__" = some (some (.builtin "BaseException.__getattribute__")) := tB_ok (T.test 108 rfl)
  have xh_BadLine : PySem.W.findIn K (.ref (gA K "BadLine")) "__getattr__" = some none := tN_ok (T.test 109 rfl)
  have xd_BadLine : PySem.W.hasDictIn K (gA K "BadLine") = true := T.test 110 rfl
  have xo_BadLine : PySem.W.findIn K (.ref (gA K "BadLine")) "__class__" = some (some (.builtin "object.__class__")) := tB_ok (T.test 111 rfl)
  have xm_BadLine : PySem.W.mroIn K (gA K "BadLine") (.type "object") = some true := tO_ok (T.test 112 rfl)
  have xs_BadLine : PySem.W.findIn K (.ref (gA K "BadLine")) "__setattr__" = some (some (.builtin "object.__setattr__")) := tB_ok (T.test 113 rfl)
  have xi_BadLine : PySem.W.findIn K (.ref (gA K "BadLine")) "__init__" = some (some (.ref (mA K (gA K "BadLine") "__init__"))) := tR_ok (T.test 114 rfl)
  have xf_BadLine : PySem.W.typeIn K (.ref (mA K (gA K "BadLine") "__init__")) = some (.type "function") := tT_ok (T.test 115 rfl)
  have xn_BadLine_line : PySem.W.findIn K (.ref (gA K "BadLine")) "line" = some none := tN_ok (T.test 116 rfl)
  have yp_BadLine_BadRun : PySem.W.subIn K (.ref (gA K "BadLine")) (.ref (gA K "BadRun")) = some false := tO_ok (T.test 117 rfl)
  have yp_BadLine_PatchError : PySem.W.subIn K (.ref (gA K "BadLine")) (.ref (gA K "PatchError")) = some true := tO_ok (T.test 118 rfl)
  have yp_BadLine_BadFact : PySem.W.subIn K (.ref (gA K "BadLine")) (.ref (gA K "BadFact")) = some false := tO_ok (T.test 119 rfl)
  have yp_BadLine_BadStore : PySem.W.subIn K (.ref (gA K "BadLine")) (.ref (gA K "BadStore")) = some false := tO_ok (T.test 120 rfl)
  have yp_BadLine_UnknownStart : PySem.W.subIn K (.ref (gA K "BadLine")) (.ref (gA K "UnknownStart")) = some false := tO_ok (T.test 121 rfl)
  have yp_BadLine_NoStore : PySem.W.subIn K (.ref (gA K "BadLine")) (.ref (gA K "NoStore")) = some false := tO_ok (T.test 122 rfl)
  have yp_BadLine_NotForced : PySem.W.subIn K (.ref (gA K "BadLine")) (.ref (gA K "NotForced")) = some false := tO_ok (T.test 123 rfl)
  have yp_BadLine_NoFact : PySem.W.subIn K (.ref (gA K "BadLine")) (.ref (gA K "NoFact")) = some false := tO_ok (T.test 124 rfl)
  have xo1 : PySem.W.specialIn K (.builtin "object.__class__") "__get__" = some (some (.builtin "getset_descriptor.__get__")) := tB_ok (T.test 125 rfl)
  have xo2 : PySem.W.takesIn K (.builtin "object.__class__") = some true := tO_ok (T.test 126 rfl)
  have yv_BadRun_ValueError : PySem.W.subIn K (.ref (gA K "BadRun")) (.type "ValueError") = some true := tO_ok (T.test 127 rfl)
  have yv_BadLine_ValueError : PySem.W.subIn K (.ref (gA K "BadLine")) (.type "ValueError") = some true := tO_ok (T.test 128 rfl)
  have R0 : Raw K mg "_law_draw" s__law_draw ["_law_script", "_law_k", "_law_j"] := raw_mk X G a0 l0 c0 k0 (fun _ _ _ _ _ _ us hl => match us, hl with | [_, _, _], _ => rfl)
  have R1 : Raw K mg "_law_names" s__law_names ["_law_script", "_law_k", "_law_many_here"] := raw_mk X G a1 l1 c1 k1 (fun _ _ _ _ _ _ us hl => match us, hl with | [_, _, _], _ => rfl)
  have R2 : Raw K mg "_law_raw_run" s__law_raw_run ["_law_script", "_law_k", "_law_j", "_law_starts", "_law_patches", "_law_most"] := raw_mk X G a2 l2 c2 k2 (fun _ _ _ _ _ _ us hl => match us, hl with | [_, _, _, _, _, _], _ => rfl)
  have R3 : Raw K mg "_law_raw_fact" s__law_raw_fact ["_law_script", "_law_k", "_law_starts", "_law_patches", "_law_most"] := raw_mk X G a3 l3 c3 k3 (fun _ _ _ _ _ _ us hl => match us, hl with | [_, _, _, _, _], _ => rfl)
  have R4 : Raw K mg "_law_char" s__law_char ["_law_draw_here"] := raw_mk X G a4 l4 c4 k4 (fun _ _ _ _ _ _ us hl => match us, hl with | [_], _ => rfl)
  have R5 : Raw K mg "_law_spoilt_text" s__law_spoilt_text ["_law_script", "_law_k", "_law_text_here"] := raw_mk X G a5 l5 c5 k5 (fun _ _ _ _ _ _ us hl => match us, hl with | [_, _, _], _ => rfl)
  have R6 : Raw K mg "_law_many" s__law_many ["_law_script", "_law_j"] := raw_mk X G a6 l6 c6 k6 (fun _ _ _ _ _ _ us hl => match us, hl with | [_, _], _ => rfl)
  have R7 : Raw K mg "_law_text" s__law_text ["_law_fact"] := raw_mk X G a7 l7 c7 k7 (fun _ _ _ _ _ _ us hl => match us, hl with | [_], _ => rfl)
  have R8 : Raw K mg "_law_is_name" s__law_is_name ["_law_text_here"] := raw_mk X G a8 l8 c8 k8 (fun _ _ _ _ _ _ us hl => match us, hl with | [_], _ => rfl)
  have R9 : Raw K mg "_law_is_good_run" s__law_is_good_run ["_law_run"] := raw_mk X G a9 l9 c9 k9 (fun _ _ _ _ _ _ us hl => match us, hl with | [_], _ => rfl)
  have R10 : Raw K mg "_law_is_run" s__law_is_run ["_law_value"] := raw_mk X G a10 l10 c10 k10 (fun _ _ _ _ _ _ us hl => match us, hl with | [_], _ => rfl)
  have R11 : Raw K mg "_law_is_fact" s__law_is_fact ["_law_value"] := raw_mk X G a11 l11 c11 k11 (fun _ _ _ _ _ _ us hl => match us, hl with | [_], _ => rfl)
  have R12 : Raw K mg "is_name" s_is_name ["text"] := raw_mk X G a12 l12 c12 k12 (fun _ _ _ _ _ _ us hl => match us, hl with | [_], _ => rfl)
  have R13 : Raw K mg "is_step" s_is_step ["text"] := raw_mk X G a13 l13 c13 k13 (fun _ _ _ _ _ _ us hl => match us, hl with | [_], _ => rfl)
  have R14 : Raw K mg "check_run" s_check_run ["run"] := raw_mk X G a14 l14 c14 k14 (fun _ _ _ _ _ _ us hl => match us, hl with | [_], _ => rfl)
  have R15 : Raw K mg "run_of" s_run_of ["words", "line"] := raw_mk X G a15 l15 c15 k15 (fun _ _ _ _ _ _ us hl => match us, hl with | [_, _], _ => rfl)
  have R16 : Raw K mg "read_run" s_read_run ["text"] := raw_mk X G a16 l16 c16 k16 (fun _ _ _ _ _ _ us hl => match us, hl with | [_], _ => rfl)
  have R17 : Raw K mg "fact_of" s_fact_of ["text", "line"] := raw_mk X G a17 l17 c17 k17 (fun _ _ _ _ _ _ us hl => match us, hl with | [_, _], _ => rfl)
  have R18 : Raw K mg "read_fact" s_read_fact ["text"] := raw_mk X G a18 l18 c18 k18 (fun _ _ _ _ _ _ us hl => match us, hl with | [_], _ => rfl)
  have R19 : Raw K mg "_law_is_integer" s__law_is_integer ["_law_value"] := raw_mk X G a19 l19 c19 k19 (fun _ _ _ _ _ _ us hl => match us, hl with | [_], _ => rfl)
  have R20 : Raw K mg "_law_refused_line" s__law_refused_line ["_law_e", "_law_line"] := raw_mk X G a20 l20 c20 k20 (fun _ _ _ _ _ _ us hl => match us, hl with | [_, _], _ => rfl)
  have R21 : Raw K mg "_law_one" s__law_one ["_law_text_here", "_law_due", "_law_run"] := raw_mk X G a21 l21 c21 k21 (fun _ _ _ _ _ _ us hl => match us, hl with | [_, _, _], _ => rfl)
  have R22 : Raw K mg "read_book" s_read_book ["text"] := raw_mk X G a22 l22 c22 k22 (fun _ _ _ _ _ _ us hl => match us, hl with | [_], _ => rfl)
  have R23 : Raw K mg "_law_same_facts" s__law_same_facts ["_law_told", "_law_due"] := raw_mk X G a23 l23 c23 k23 (fun _ _ _ _ _ _ us hl => match us, hl with | [_, _], _ => rfl)
  have R24 : Raw K mg "_law_is_good_fact" s__law_is_good_fact ["_law_fact"] := raw_mk X G a24 l24 c24 k24 (fun _ _ _ _ _ _ us hl => match us, hl with | [_], _ => rfl)
  have R25 : Raw K mg "_law_read_fact" s__law_read_fact ["_law_text_here"] := raw_mk X G a25 l25 c25 k25 (fun _ _ _ _ _ _ us hl => match us, hl with | [_], _ => rfl)
  have R26 : Raw K mg "_law_all" s__law_all ["_law_text_here"] := raw_mk X G a26 l26 c26 k26 (fun _ _ _ _ _ _ us hl => match us, hl with | [_], _ => rfl)
  have R27 : Raw K mg "law" s_law ["_law_script"] := raw_mk X G a27 l27 c27 k27 (fun _ _ _ _ _ _ us hl => match us, hl with | [_], _ => rfl)
  have B : Blt mg := ⟨PySem.W.mg_none_of X G z0, PySem.W.mg_none_of X G z1, PySem.W.mg_none_of X G z2, PySem.W.mg_none_of X G z3, PySem.W.mg_none_of X G z4, PySem.W.mg_none_of X G z5, PySem.W.mg_none_of X G z6, PySem.W.mg_none_of X G z7, PySem.W.mg_none_of X G z8⟩
  have C_LONGEST_NAME := PySem.W.mg_of X G uC0
  have C_LETTERS := PySem.W.mg_of X G uC1
  have C_DIGITS := PySem.W.mg_of X G uC2
  have g_BadRun := PySem.W.mg_of X G xa_BadRun
  have r_BadRun : RCls K (gA K "BadRun") := ⟨xc_BadRun, xt_BadRun, xe_BadRun, ys_BadRun⟩
  have g_BadLine := PySem.W.mg_of X G xa_BadLine
  have r_BadLine : RCls K (gA K "BadLine") := ⟨xc_BadLine, xt_BadLine, xe_BadLine, ys_BadLine⟩
  have g_PatchError := PySem.W.mg_of X G xa_PatchError
  have r_PatchError : RCls K (gA K "PatchError") := ⟨xc_PatchError, xt_PatchError, xe_PatchError, ys_PatchError⟩
  have g_BadFact := PySem.W.mg_of X G xa_BadFact
  have r_BadFact : RCls K (gA K "BadFact") := ⟨xc_BadFact, xt_BadFact, xe_BadFact, ys_BadFact⟩
  have g_BadStore := PySem.W.mg_of X G xa_BadStore
  have r_BadStore : RCls K (gA K "BadStore") := ⟨xc_BadStore, xt_BadStore, xe_BadStore, ys_BadStore⟩
  have g_UnknownStart := PySem.W.mg_of X G xa_UnknownStart
  have r_UnknownStart : RCls K (gA K "UnknownStart") := ⟨xc_UnknownStart, xt_UnknownStart, xe_UnknownStart, ys_UnknownStart⟩
  have g_NoStore := PySem.W.mg_of X G xa_NoStore
  have r_NoStore : RCls K (gA K "NoStore") := ⟨xc_NoStore, xt_NoStore, xe_NoStore, ys_NoStore⟩
  have g_NotForced := PySem.W.mg_of X G xa_NotForced
  have r_NotForced : RCls K (gA K "NotForced") := ⟨xc_NotForced, xt_NotForced, xe_NotForced, ys_NotForced⟩
  have g_NoFact := PySem.W.mg_of X G xa_NoFact
  have r_NoFact : RCls K (gA K "NoFact") := ⟨xc_NoFact, xt_NoFact, xe_NoFact, ys_NoFact⟩
  have x_BadRun : XCls K mg "BadRun" (gA K "BadRun") := ⟨g_BadRun, xc_BadRun, xg_BadRun, xh_BadRun, xe_BadRun, xt_BadRun, xd_BadRun, xo_BadRun, xm_BadRun⟩
  have o_BadRun : OexC K (gA K "BadRun") := oexC_of xl_BadRun xr_BadRun xs_BadRun xe_BadRun xt_BadRun xk_BadRun
  have sc_BadRun : FnScope ["self", "run"] ["self", "run"] (defScope (inClass (topS 2) 0)) := ⟨rfl, rfl, rfl, by decide +kernel, rfl, by decide +kernel, by decide +kernel⟩
  have F_BadRun := fun_mk (st := (inClass (topS 2) 0)) xj_BadRun xq_BadRun xp_BadRun
  have yp_BadRun_BadRun := ys_BadRun
  have x_BadLine : XCls K mg "BadLine" (gA K "BadLine") := ⟨g_BadLine, xc_BadLine, xg_BadLine, xh_BadLine, xe_BadLine, xt_BadLine, xd_BadLine, xo_BadLine, xm_BadLine⟩
  have o_BadLine : OexC K (gA K "BadLine") := oexC_of xl_BadLine xr_BadLine xs_BadLine xe_BadLine xt_BadLine xk_BadLine
  have sc_BadLine : FnScope ["self", "line"] ["self", "line"] (defScope (inClass (topS 8) 0)) := ⟨rfl, rfl, rfl, by decide +kernel, rfl, by decide +kernel, by decide +kernel⟩
  have F_BadLine := fun_mk (st := (inClass (topS 8) 0)) xj_BadLine xq_BadLine xp_BadLine
  have yp_BadLine_BadLine := ys_BadLine
  refine ⟨PySem.W.fnOf "law" "law" (defArgs s_law) (defBody s_law) (defScope s_law) .none kV27 dc27 pm27 an27 cd27 ct27, PySem.W.codeHd_of_K X tb1, fun s v => .of_eq rfl, fun base _ _ TB => ?_⟩
  have E_BadRun : ExI l.prog w K mg base "BadRun" ["run"] := ⟨(gA K "BadRun"), (mA K (gA K "BadRun") "__init__"), _, ["self", "run"], g_BadRun, o_BadRun, xi_BadRun, xf_BadRun, F_BadRun.binds (fun _ _ _ _ _ _ us hl => match us, hl with | [_, _], _ => rfl), init_one F_BadRun sc_BadRun rfl o_BadRun xn_BadRun_run rfl rfl rfl rfl⟩
  have E_BadLine : ExI l.prog w K mg base "BadLine" ["line"] := ⟨(gA K "BadLine"), (mA K (gA K "BadLine") "__init__"), _, ["self", "line"], g_BadLine, o_BadLine, xi_BadLine, xf_BadLine, F_BadLine.binds (fun _ _ _ _ _ _ us hl => match us, hl with | [_, _], _ => rfl), init_one F_BadLine sc_BadLine rfl o_BadLine xn_BadLine_line rfl rfl rfl rfl⟩
  have EC_BadLine : ExIC l.prog w K mg base "BadLine" ["line"] := ⟨(gA K "BadLine"), (mA K (gA K "BadLine") "__init__"), _, ["self", "line"], g_BadLine, o_BadLine, xi_BadLine, xf_BadLine, F_BadLine.binds (fun _ _ _ _ _ _ us hl => match us, hl with | [_, _], _ => rfl), init_oneC F_BadLine sc_BadLine rfl o_BadLine xn_BadLine_line rfl rfl rfl rfl⟩
  have d__law_draw : DefOk l.prog w K mg base "_law_draw" 1 ["_law_script", "_law_k", "_law_j"] 3 m__law_draw := v__law_draw B R0
  have e__law_draw := d__law_draw.two
  have d__law_names : DefOk l.prog w K mg base "_law_names" 2 ["_law_script", "_law_k", "_law_many_here"] 3 m__law_names := v__law_names B R1 d__law_draw
  have e__law_names := d__law_names.two
  have d__law_raw_run : DefOk l.prog w K mg base "_law_raw_run" 2 ["_law_script", "_law_k", "_law_j", "_law_starts", "_law_patches", "_law_most"] 6 m__law_raw_run := v__law_raw_run B R2 d__law_draw
  have e__law_raw_run := d__law_raw_run.two
  have d__law_raw_fact : DefOk l.prog w K mg base "_law_raw_fact" 3 ["_law_script", "_law_k", "_law_starts", "_law_patches", "_law_most"] 5 m__law_raw_fact := v__law_raw_fact B R3 d__law_draw d__law_raw_run
  have e__law_raw_fact := d__law_raw_fact.two
  have d__law_char : DefOk l.prog w K mg base "_law_char" 1 ["_law_draw_here"] 1 m__law_char := v__law_char B R4
  have e__law_char := d__law_char.two
  have d__law_spoilt_text : DefOk l.prog w K mg base "_law_spoilt_text" 2 ["_law_script", "_law_k", "_law_text_here"] 3 m__law_spoilt_text := v__law_spoilt_text B R5 d__law_draw d__law_char
  have e__law_spoilt_text := d__law_spoilt_text.two
  have d__law_many : DefOk l.prog w K mg base "_law_many" 2 ["_law_script", "_law_j"] 2 m__law_many := v__law_many B R6 d__law_draw
  have e__law_many := d__law_many.two
  have d__law_text : DefOk l.prog w K mg base "_law_text" 1 ["_law_fact"] 1 m__law_text := v__law_text B R7
  have e__law_text := d__law_text.two
  have d__law_is_name : DefOk l.prog w K mg base "_law_is_name" 1 ["_law_text_here"] 1 m__law_is_name := v__law_is_name B R8
  have e__law_is_name := d__law_is_name.two
  have d__law_is_good_run : DefOk l.prog w K mg base "_law_is_good_run" 2 ["_law_run"] 1 m__law_is_good_run := v__law_is_good_run B R9 d__law_is_name
  have e__law_is_good_run := d__law_is_good_run.two
  have d__law_is_run : DefOk l.prog w K mg base "_law_is_run" 1 ["_law_value"] 1 m__law_is_run := v__law_is_run B R10
  have e__law_is_run := d__law_is_run.two
  have d__law_is_fact : DefOk l.prog w K mg base "_law_is_fact" 2 ["_law_value"] 1 m__law_is_fact := v__law_is_fact B R11 d__law_is_run
  have e__law_is_fact := d__law_is_fact.two
  have d_is_name : DefOk l.prog w K mg base "is_name" 1 ["text"] 1 m_is_name := v_is_name B R12 C_LONGEST_NAME C_LETTERS C_DIGITS
  have e_is_name := d_is_name.two
  have d_is_step : DefOk l.prog w K mg base "is_step" 2 ["text"] 1 m_is_step := v_is_step B R13 d_is_name
  have e_is_step := d_is_step.two
  have d_check_run : DefOk l.prog w K mg base "check_run" 3 ["run"] 1 m_check_run := v_check_run B R14 E_BadRun d_is_name d_is_step
  have e_check_run := d_check_run.two
  have e_run_of : DefOk2 l.prog w K mg base "run_of" 4 ["words", "line"] 2 m_run_of := v_run_of B R15 g_BadRun (cat_cons ⟨.ref (gA K "BadRun"), g_BadRun, r_BadRun.exm yp_BadRun_BadRun⟩ (cat_cons ⟨.ref (gA K "BadLine"), g_BadLine, r_BadRun.exm yp_BadLine_BadRun⟩ cat_nil)) E_BadLine EC_BadLine d_check_run
  have e_read_run : DefOk2 l.prog w K mg base "read_run" 5 ["text"] 1 m_read_run := v_read_run B R16 e_run_of
  have e_fact_of : DefOk2 l.prog w K mg base "fact_of" 5 ["text", "line"] 2 m_fact_of := v_fact_of B R17 E_BadLine e_run_of
  have e_read_fact : DefOk2 l.prog w K mg base "read_fact" 6 ["text"] 1 m_read_fact := v_read_fact B R18 e_fact_of
  have c__law_is_integer : DefOkC l.prog w K mg base "_law_is_integer" 1 ["_law_value"] 1 m__law_is_integer := v__law_is_integer B R19
  have d__law_is_integer := c__law_is_integer.ok
  have e__law_is_integer := d__law_is_integer.two
  have c__law_refused_line : DefOkC l.prog w K mg base "_law_refused_line" 2 ["_law_e", "_law_line"] 2 m__law_refused_line := v__law_refused_line B R20 ⟨xo1, xo2⟩ g_PatchError (cat_cons ⟨(gA K "BadRun"), x_BadRun, r_PatchError.kit yp_BadRun_PatchError⟩ (cat_cons ⟨(gA K "BadLine"), x_BadLine, r_PatchError.kit yp_BadLine_PatchError⟩ cat_nil)) (cat_cons ⟨(gA K "BadRun"), x_BadRun, kit_type (by decide +kernel) yv_BadRun_ValueError⟩ (cat_cons ⟨(gA K "BadLine"), x_BadLine, kit_type (by decide +kernel) yv_BadLine_ValueError⟩ cat_nil)) g_BadRun g_BadFact g_BadStore g_UnknownStart g_NoStore g_NotForced g_NoFact (cat_cons ⟨(gA K "BadRun"), x_BadRun, (kits_yes (r_BadRun.kit yp_BadRun_BadRun))⟩ (cat_cons ⟨(gA K "BadLine"), x_BadLine, (kits_no (r_BadRun.kit yp_BadLine_BadRun) (kits_no (r_BadFact.kit yp_BadLine_BadFact) (kits_no (r_BadStore.kit yp_BadLine_BadStore) (kits_no (r_UnknownStart.kit yp_BadLine_UnknownStart) (kits_no (r_NoStore.kit yp_BadLine_NoStore) (kits_no (r_NotForced.kit yp_BadLine_NotForced) (kits_no (r_NoFact.kit yp_BadLine_NoFact) kitAny_nil)))))))⟩ cat_nil)) (has_cons ⟨(gA K "BadLine"), x_BadLine, xn_BadLine_line⟩ has_nil) c__law_is_integer
  have d__law_refused_line := c__law_refused_line.ok
  have e__law_refused_line := d__law_refused_line.two
  have e__law_one : DefOk2 l.prog w K mg base "_law_one" 7 ["_law_text_here", "_law_due", "_law_run"] 3 m__law_one := v__law_one B R21 g_BadLine (cat_cons ⟨.ref (gA K "BadRun"), g_BadRun, r_BadLine.exm yp_BadRun_BadLine⟩ (cat_cons ⟨.ref (gA K "BadLine"), g_BadLine, r_BadLine.exm yp_BadLine_BadLine⟩ cat_nil)) c__law_refused_line e_read_run e_read_fact e__law_is_run e__law_is_fact
  have f_read_book : DefOkO2 l.prog w K mg base "read_book" 7 ["text"] 1 m_read_book := v_read_book B R22 (fun f fd hm hl => by obtain ⟨_, _, _, q⟩ := hl; exact PySem.W.law_code X G tb0 hm (X _ _ q) rfl) TB rfl e_fact_of
  have e_read_book := f_read_book.sh
  have d__law_same_facts : DefOk l.prog w K mg base "_law_same_facts" 3 ["_law_told", "_law_due"] 2 m__law_same_facts := v__law_same_facts B R23 d__law_is_fact
  have e__law_same_facts := d__law_same_facts.two
  have d__law_is_good_fact : DefOk l.prog w K mg base "_law_is_good_fact" 3 ["_law_fact"] 1 m__law_is_good_fact := v__law_is_good_fact B R24 d__law_is_good_run
  have e__law_is_good_fact := d__law_is_good_fact.two
  have d__law_read_fact : DefOk l.prog w K mg base "_law_read_fact" 4 ["_law_text_here"] 1 m__law_read_fact := v__law_read_fact B R25 d__law_is_good_fact
  have e__law_read_fact := d__law_read_fact.two
  have e__law_all : DefOk2 l.prog w K mg base "_law_all" 8 ["_law_text_here"] 1 m__law_all := v__law_all B R26 g_BadLine (cat_cons ⟨.ref (gA K "BadRun"), g_BadRun, r_BadLine.exm yp_BadRun_BadLine⟩ (cat_cons ⟨.ref (gA K "BadLine"), g_BadLine, r_BadLine.exm yp_BadLine_BadLine⟩ cat_nil)) c__law_refused_line e__law_read_fact e_read_book e__law_same_facts
  have e_law : LawOk2 l.prog w K mg base "law" 9 ["_law_script"] 1 m_law := v_law B R27 e__law_names e__law_many e__law_raw_fact e__law_spoilt_text e__law_text e__law_is_good_run e__law_draw e__law_one e__law_read_fact e__law_all
  exact law_fin2 e_law hfa (PySem.W.mg_of X G a27) l27 m_law_ok
end VL

open PySem PySem.W PyProof.Rows in
set_option maxRecDepth 100000 in
set_option maxHeartbeats 0 in
theorem PySem.Challenge.cw_patchfacts_k49_text_refusals_holds : PySem.Challenge.rw_patchfacts_k49_text_refusals.Holds := by
  w_on
  o_law
  refine HandSHeadRun.head_any (r := VL.rowR) (q := VL.seeQ) (H := VL.hookP 12 VL.tops 214) (ob := VL.obP 12 VL.tops 214) (M := 30000) (loose := VL.freeN) (kwd := [])
    (d := HandSHeadRun.topDef VL.rowR.prog 43) (VL.obP_eq 12 VL.tops 214) (by kernel_rfl) (fun s => by kernel_rfl) VL.run_ok (by kernel_rfl) (by kernel_rfl)
    (by kernel_rfl) (by rfl) (by first | assumption | decide +kernel) (by decide +kernel) ⟨rfl, rfl, rfl, rfl, rfl, by decide +kernel⟩ ?hw ?hc
  case hw => w_witness2
  case hc =>
    refine VL.walk_ofP (l := PySem.Challenge.rw_patchfacts_k49_text_refusals) (n := 63) (k := 9) (x := "_law_script") (CX := fun w => L2.CX (PySem.Challenge.rw_patchfacts_k49_text_refusals).prog w) rfl (by decide) (by kernel_rfl) ⟨rfl, by decide, by decide⟩ (by decide) rfl ?F (fun _ H s e s' h => VL.cx_end2 _ _ H s e s' h)
    intro w mg fa h Y G h0
    obtain ⟨⟨K, X, nT, T⟩, hT⟩ := Y
    have e : (HandSHeadRun.topDef VL.rowR.prog 43).name = ("law" : PySem.Str) := by kernel_rfl
    rw [e] at h0
    obtain ⟨fd, hC, hb, hF⟩ := VL.all_of (l := PySem.Challenge.rw_patchfacts_k49_text_refusals) (w := w) X G h0 T
    exact ⟨K, fd, _, X, nT, hT, hC, hb, hF⟩
