import PyProof.Rows.All
import HandS.Base
import HandS.Words
import HandS.Call
import HandS.Exc
import HandS.Head0
import HandS.Head1
import HandS.Head2
import HandS.HeadHook1
import HandS.HeadHook2
import HandS.HeadHook3
import Wide.All
import OpenK.AllK
import Wide.FinOn
import HandS.ForMost
import HandS.TryOnly
import HandS.ExcOwn
import HandS.CallSlots
import HandS.ExcCtx
import HandS.TryMany
import HandS.Wide
import HandS.TupAny
import HandS.TupMul
import HandS.Deep
import HandS.IsInst
import PyProof.StrOps2
import HandS.WordsExc
import HandS.EndBits
import HandS.RaiseMore
import HandS.ExcInitHot
import HandS.ExcField
import HandS.ExcIs
import KE.KExcIs
import PyProof.RulesMatch
import HandS.NoneIn
import HandS.More
import HandS.Property
import HandS.Style
import HandS.DictComp
import KE.KRevSl
import HandS.DictEq
import HandS.HotCalls
import HandS.SetFor
import HandS.Text
import HandS.Iter
import HandS.TupLe
import KE.KDictKeyed
import HandS.Conv
import HandS.SlotsOwn
import HandS.OwnEq
import HandS.Star
import HandS.Defaults
import OpenK.KOps
import HandS.DictTup
import HandS.Zip
import HandS.HeadEnd
import HandS.TupLen
import HandS.Flow
import HandS.IterVal
import HandS.GenList
import HandS.Nested
import PySem.Challenge.RW_patchfacts_k06_prefixes
set_option Elab.async false
set_option linter.all false
set_option maxRecDepth 100000
set_option maxHeartbeats 2000000
set_option maxRecDepth 100000
set_option maxHeartbeats 2000000
set_option autoImplicit false
section
variable {A : Type _} {x y : A} {l : List A} {n : Nat}
theorem gz_ : (x :: l)[0]? = some x := rfl
theorem gs_ : (x :: l)[n + 1]? = l[n]? := rfl
theorem sz_ : (x :: l).set 0 y = y :: l := rfl
theorem ss_ : (x :: l).set (n + 1) y = x :: l.set n y := rfl
end
namespace VL
open PySem PySem.Spec PyProof.Rows L2
abbrev Fr : Type := PySem.W.Frag
section
variable {o : Option (Option Value)} {p : Option Bool} {v : Option Value} {r : Option (List Value)}
def tR (o : Option (Option Value)) : Bool := match o with | some (some (.ref _)) => true | _ => false
def aR (o : Option (Option Value)) : Addr := match o with | some (some (.ref a)) => a | _ => 0
theorem tR_ok (h : tR o = true) : o = some (some (.ref (aR o))) := by
  cases o with
  | none => cases h
  | some o => cases o with
    | none => cases h
    | some v => cases v <;> first | rfl | cases h
def tN (o : Option (Option Value)) : Bool := match o with | some none => true | _ => false
theorem tN_ok (h : tN o = true) : o = some none := by
  cases o with
  | none => cases h
  | some o => cases o with
    | none => rfl
    | some v => cases h
end
def gA (K : Fr) (x : Str) : Addr := aR (PySem.W.nsIn K mainGlobals x)
structure FnT where
  at_ : Fr → Addr
  name : Str
  qual : Str
  st : Stmt
abbrev FnAt (K : Fr) (f : Addr) (n q : Str) (st : Stmt) : Prop := ∃ (oc : Value) (od : Option Addr) (sl : Array (Option Value)) (kV dc pm : Value) (an : Option Addr) (cd ct : Value),
  K.lookup f = some ⟨oc, od, .func (PySem.W.fnOf n q (defArgs st) (defBody st) (defScope st) .none kV dc pm an cd ct), sl⟩ ∧ PySem.W.codeIn K cd q = true ∧ PySem.W.keepIn K (.ref f) = true
def fnT (K : Fr) (f : Addr) : He.FnV := match K.lookup f with
  | some ⟨_, _, .func fd, _⟩ => some (fd.name, fd.qualname, fd.params, fd.body, fd.scope, fd.globals, fd.closure, fd.defaults, fd.builtins)
  | _ => none
def FnT.val (d : FnT) : He.FnV := some (d.name, d.qual, defArgs d.st, .stmts (defBody d.st), defScope d.st, mainGlobals, [], .none, builtinsNs)
def FnT.ok (K : Fr) (d : FnT) : Bool := match K.lookup (d.at_ K) with
  | some ⟨_, _, .func fd, _⟩ => PySem.W.codeIn K fd.code d.qual && PySem.W.keepIn K (.ref (d.at_ K))
  | _ => false
theorem FnT.get {K : Fr} {d : FnT} (e : fnT K (d.at_ K) = d.val) (c : d.ok K = true) : FnAt K (d.at_ K) d.name d.qual d.st := by
  unfold fnT at e
  unfold FnT.ok at c
  cases z : K.lookup (d.at_ K) with
  | none => rw [z] at c; cases c
  | some b =>
    obtain ⟨u1, u2, u3, u4⟩ := b
    rw [z] at c e
    cases u3 <;> first | cases c | skip
    case func fd =>
      obtain ⟨w1, w2, w3, w4, w5, w6, w7, w8, w9, w10, w11, w12, w13, w14, w15⟩ := fd
      have e : (some (w1, w2, w3, w4, w5, w6, w7, w8, w15) : He.FnV) = some (d.name, d.qual, defArgs d.st, .stmts (defBody d.st), defScope d.st, mainGlobals, [], .none, builtinsNs) := e
      simp only [Option.some.injEq, Prod.mk.injEq] at e
      obtain ⟨e1, e2, e3, e4, e5, e6, e7, e8, e9⟩ := e
      subst e1 e2 e3 e4 e5 e6 e7 e8 e9
      have c : (PySem.W.codeIn K w13 d.qual && PySem.W.keepIn K (.ref (d.at_ K))) = true := c
      obtain ⟨c1, c2⟩ := Bool.and_eq_true_iff.mp c
      exact ⟨u1, u2, u4, w9, w10, w11, w12, w13, w14, z, c1, c2⟩
def entT (e : DictEntry) : Option (Str × Int) := match e.key, e.val with
  | .str z _, .int m _ => some (z, m)
  | _, _ => none
abbrev DcV : Type := Option (List (Option (Str × Int)) × List (Option (Str × Int)))
def dcT (K : Fr) (a : Addr) : DcV := match K.lookup a with
  | some ⟨.type c, none, .dict es _, sl⟩ => (match decide (c = "dict") && (sl.isEmpty && !(a == sysModules)) with
    | true => some (es.toList.map He.keyOf, es.toList.map entT)
    | false => none)
  | _ => none
abbrev DcAt (K : Fr) (P : Params) (a : Addr) (l : List (Str × Int)) : Prop := ∃ (es : Array DictEntry) (n : Nat), K.lookup a = some ⟨.type "dict", none, .dict es n, #[]⟩ ∧ PySem.W.KeysLit P es.toList ∧ (a == sysModules) = false ∧ es.toList.map entT = l.map some
theorem dcT_ok {K : Fr} {P : Params} {a : Addr} {l : List (Str × Int)} (h : dcT K a = some (He.keysIn P (l.map (·.1)), l.map some)) : DcAt K P a l := by
  unfold dcT at h
  split at h
  · rename_i c es n sl ho
    split at h
    · rename_i hc
      obtain ⟨h1, h2⟩ := Bool.and_eq_true_iff.mp hc
      obtain ⟨h3, h4⟩ := Bool.and_eq_true_iff.mp h2
      have h1 := of_decide_eq_true h1
      have h3 : sl = #[] := Array.isEmpty_iff.mp h3
      subst h1 h3
      have h := Option.some.inj h
      refine ⟨es, n, ho, He.keysLit_of (congrArg (·.1) h), ?_, congrArg (·.2) h⟩
      cases q : (a == sysModules) with
      | false => rfl
      | true => rw [q] at h4; cases h4
    · cases h
  · cases h
structure TopT where
  ts : List (Fr → Bool)
  fn : List FnT
  dc : List (Str × List (Str × Int))
abbrev AlT : Type := Bool × (List He.FnV × List DcV)
def obsT (t : TopT) (K : Fr) : AlT := ((t.ts.all fun f => f K) && t.fn.all fun d => d.ok K, t.fn.map fun d => fnT K (d.at_ K), t.dc.map fun d => dcT K (gA K d.1))
def valT (t : TopT) (P : Params) : AlT := (true, t.fn.map FnT.val, t.dc.map fun d => some (He.keysIn P (d.2.map (·.1)), d.2.map some))
def SaysT (t : TopT) (P : Params) (K : Fr) : Prop := obsT t K = valT t P
def adrT (lo n : Nat) : List Addr := mainGlobals :: (List.range (n - lo)).map fun i => i + lo
def hookT (lo : Nat) (t : TopT) : PySem.W.Hook where
  α := AlT
  obs := fun s => obsT t (He.frG s.heap.get? (adrT lo s.heap.objs.size))
  val := fun w => valT t w.params
  says := fun w h => ∃ K : Fr, K.In h ∧ SaysT t w.params K
  of := fun _ _ e => ⟨_, He.frG_in, e⟩
  keeps := fun _ _ _ ⟨K, hK, c⟩ k => ⟨K, PySem.W.Frag.In.keeps hK k, c⟩
def obT (lo : Nat) (t : TopT) (s : PySem.W.SharedT) : AlT := obsT t (He.frG (HandSHeadRun.getT s) (adrT lo s.n))
theorem obT_eq (lo : Nat) (t : TopT) (s : PySem.W.SharedT) : obT lo t s = (hookT lo t).obs s.abs := by
  have e : HandSHeadRun.getT s = s.abs.heap.get? := funext (HandSHeadRun.getT_eq s)
  have e2 : s.abs.heap.objs.size = s.n := PySem.W.absHeap_size s.tree s.n s.life
  unfold obT
  rw [e, ← e2]
  rfl
section
variable {t : TopT} {P : Params} {K : Fr}
theorem SaysT.test (c : SaysT t P K) (i : Nat) {f : Fr → Bool} (h : t.ts[i]? = some f) : f K = true := by
  have c1 : ((t.ts.all fun f => f K) && t.fn.all fun d => d.ok K) = true := congrArg (fun z : AlT => z.1) c
  exact List.all_eq_true.mp (Bool.and_eq_true_iff.mp c1).1 f (List.mem_of_getElem? h)
theorem SaysT.defn (c : SaysT t P K) (i : Nat) {d : FnT} (h : t.fn[i]? = some d) : FnAt K (d.at_ K) d.name d.qual d.st := by
  have c1 : ((t.ts.all fun f => f K) && t.fn.all fun d => d.ok K) = true := congrArg (fun z : AlT => z.1) c
  have c2 : t.fn.map (fun d => fnT K (d.at_ K)) = t.fn.map FnT.val := congrArg (fun z : AlT => z.2.1) c
  have e : (t.fn.map fun d => fnT K (d.at_ K))[i]? = (t.fn.map FnT.val)[i]? := by rw [c2]
  rw [List.getElem?_map, List.getElem?_map, h] at e
  exact FnT.get (Option.some.inj e) (List.all_eq_true.mp (Bool.and_eq_true_iff.mp c1).2 d (List.mem_of_getElem? h))
theorem SaysT.dict (c : SaysT t P K) (i : Nat) {d : Str × List (Str × Int)} (h : t.dc[i]? = some d) : DcAt K P (gA K d.1) d.2 := by
  have c2 : (t.dc.map fun d => dcT K (gA K d.1)) = t.dc.map fun d => some (He.keysIn P (d.2.map (·.1)), d.2.map some) := congrArg (fun z : AlT => z.2.2) c
  have e : (t.dc.map fun d => dcT K (gA K d.1))[i]? = (t.dc.map fun d => (some (He.keysIn P (d.2.map (·.1)), d.2.map some) : DcV))[i]? := by rw [c2]
  rw [List.getElem?_map, List.getElem?_map, h] at e
  exact dcT_ok (Option.some.inj e)
end
end VL

namespace VL
open PySem L2
set_option maxHeartbeats 0
def topS (i : Nat) : Stmt := PySem.Challenge.pw_patchfacts_k06_prefixes.main.body.getD i (.Pass ⟨0, 0, 0, 0⟩)
abbrev s__law_draw : Stmt := topS 3
abbrev s__law_names : Stmt := topS 4
abbrev s__law_raw_run : Stmt := topS 5
abbrev s__law_many : Stmt := topS 7
abbrev s_prefixes : Stmt := topS 1
abbrev s__law_is_run : Stmt := topS 6
abbrev s__law_asked : Stmt := topS 8
abbrev s_law : Stmt := topS 9
def tops : TopT where
  ts := ([fun K => tR (PySem.W.nsIn K mainGlobals "_law_draw"),
    fun K => tR (PySem.W.nsIn K mainGlobals "_law_names"),
    fun K => tR (PySem.W.nsIn K mainGlobals "_law_raw_run"),
    fun K => tR (PySem.W.nsIn K mainGlobals "_law_many"),
    fun K => tR (PySem.W.nsIn K mainGlobals "prefixes"),
    fun K => tR (PySem.W.nsIn K mainGlobals "_law_is_run"),
    fun K => tR (PySem.W.nsIn K mainGlobals "_law_asked"),
    fun K => tR (PySem.W.nsIn K mainGlobals "law"),
    fun K => tN (PySem.W.nsIn K mainGlobals "int"),
    fun K => tN (PySem.W.nsIn K mainGlobals "len"),
    fun K => tN (PySem.W.nsIn K mainGlobals "range"),
    fun K => tN (PySem.W.nsIn K mainGlobals "isinstance"),
    fun K => tN (PySem.W.nsIn K mainGlobals "tuple"),
    fun K => tN (PySem.W.nsIn K mainGlobals "str")] : List (Fr → Bool))
  fn := ([⟨fun K => (gA K "_law_draw"), "_law_draw", "_law_draw", s__law_draw⟩,
    ⟨fun K => (gA K "_law_names"), "_law_names", "_law_names", s__law_names⟩,
    ⟨fun K => (gA K "_law_raw_run"), "_law_raw_run", "_law_raw_run", s__law_raw_run⟩,
    ⟨fun K => (gA K "_law_many"), "_law_many", "_law_many", s__law_many⟩,
    ⟨fun K => (gA K "prefixes"), "prefixes", "prefixes", s_prefixes⟩,
    ⟨fun K => (gA K "_law_is_run"), "_law_is_run", "_law_is_run", s__law_is_run⟩,
    ⟨fun K => (gA K "_law_asked"), "_law_asked", "_law_asked", s__law_asked⟩,
    ⟨fun K => (gA K "law"), "law", "law", s_law⟩] : List FnT)
  dc := ([] : List (Str × List (Str × Int)))
abbrev rowR : PySem.W.OpenRow := PySem.W.OpenLaw.row PySem.Challenge.rw_patchfacts_k06_prefixes
abbrev seeQ : Program := PySem.W.view rowR.prog [9]
def freeN : List PySem.Str := (["__name__",
    "prefixes",
    "_law_draw",
    "_law_names",
    "_law_raw_run",
    "_law_is_run",
    "_law_many",
    "_law_asked"] : List PySem.Str)
abbrev RunT (w : World) : Prop := HandSHeadRun.RunEq rowR seeQ (hookT 12 tops) (obT 12 tops) 30000 freeN w
theorem run_false (w : World) : RunT (w.withFollow "special-get-raises" false) := by
  intro os
  kernel_rfl
theorem run_true (w : World) : RunT (w.withFollow "special-get-raises" true) := by
  intro os
  kernel_rfl
theorem run_ok (w : World) : RunT w := PySem.W.byRow2 "special-get-raises" (P := RunT) run_false run_true w
set_option maxHeartbeats 2000000
end VL
set_option maxRecDepth 100000
namespace VL
open PySem L2

inductive D where
  | non | bl (b : Bool) | int (i : Int) | str (s : Str)
  | scr (ns : List Int) | tup (ds : List D) | lst (ds : List D) | dic (t : Nat) (es : List (D × D)) | ins (c : Str) (fs : List (Str × D)) | exn (c : Str) (fs : List (Str × D)) | sel (x : Addr) (c : Str) (fs : List (Str × D))
instance : Inhabited D := ⟨.non⟩
abbrev Vw := Addr → Option HO
structure Gm where
  P : Program
  w : World
  K : PySem.W.Frag
  mg : Str → Option Value
def ScrAt (K : PySem.W.Frag) (G : Vw) (a : Addr) (ns : List Int) : Prop := G a = some (.lst (ns.map V.int)) ∨
  ∃ (o : Obj) (its : Array Value) (n : Nat), K.lookup a = some o ∧ o.cls = .type "list" ∧ o.dict = none ∧ o.data = .seq its n ∧ its.size ≤ sizeLine ∧ Vals (ns.map V.int) its.toList
theorem ScrAt.mono {K : PySem.W.Frag} {G G' : Vw} {a : Addr} {ns : List Int} (e : ∀ a u, G a = some u → G' a = some u) (h : ScrAt K G a ns) : ScrAt K G' a ns := h.imp (e _ _) id
abbrev NK := List (Sum Key (List Key))
def nkH1 (w : World) : Sum Key (List Key) → Int
  | .inl k => keyH w k
  | .inr ks => reduceHash (Builtin.Tuple.tupleHashOf (ks.map (keyH w)))
def nkH (w : World) (k : NK) : Int := reduceHash (Builtin.Tuple.tupleHashOf (k.map (nkH1 w)))
def nDict (w : World) (a : Addr) (kvs : List (NK × Addr × V)) : HO := .ext fun h =>
  kvs.length ≤ sizeLine ∧ (a == sysModules) = false ∧ (kvs.map (·.1)).Nodup ∧ ∃ us : List Value, Vals (kvs.map (·.2.2)) us ∧
    ∃ (o : Obj) (es : Array DictEntry) (ep : Nat), h.get? a = some o ∧ o.ExactDict ∧ o.data = .dict es ep ∧ es.toList = List.zipWith (fun (p : NK × Addr × V) (u : Value) => (⟨nkH w p.1, .ref p.2.1, u⟩ : DictEntry)) kvs us
inductive Res (α : Type) where
  | ok (a : α) | exc (c : Str) (fs : List (Str × D)) | bad
def Res.bind {α β : Type} : Res α → (α → Res β) → Res β
  | .ok a, f => f a
  | .exc c fs, _ => .exc c fs
  | .bad, _ => .bad
inductive Sl where
  | no | sh (d : D) | ow (d : D)
instance : Inhabited Sl := ⟨.no⟩
abbrev Env := List Sl
def keyD : Key → D
  | .inl i => .int i
  | .inr s => .str s
def nkD1 : Sum Key (List Key) → D
  | .inl k => keyD k
  | .inr ks => .tup (ks.map keyD)
def nkD (k : NK) : D := .tup (k.map nkD1)
def NItem (G : Vw) : Sum Key (List Key) → V → Prop
  | .inl k, x => x = kV k
  | .inr ks, x => ∃ b, x = .ref b ∧ G b = some (.tup (ks.map kV))
inductive NItems (G : Vw) : NK → List V → Prop
  | nil : NItems G [] []
  | cons {k : Sum Key (List Key)} {ks : NK} {x : V} {xs : List V} : NItem G k x → NItems G ks xs → NItems G (k :: ks) (x :: xs)
def NTup (G : Vw) (k : NK) (q : Addr) : Prop := ∃ xs, G q = some (.tup xs) ∧ NItems G k xs
mutual
inductive Rp (mg : Gm) (G : Vw) : D → V → Prop
  | non : Rp mg G .non .non
  | bl (b : Bool) : Rp mg G (.bl b) (.bl b)
  | int (i : Int) : Rp mg G (.int i) (.int i)
  | str (s : Str) : Rp mg G (.str s) (.str s)
  | scr {a : Addr} {ns : List Int} : ScrAt mg.K G a ns → Rp mg G (.scr ns) (.ref a)
  | tup {a : Addr} {xs : List V} {ds : List D} : G a = some (.tup xs) → RpL mg G ds xs → Rp mg G (.tup ds) (.ref a)
  | lst {a : Addr} {xs : List V} {ds : List D} : G a = some (.lst xs) → RpL mg G ds xs → Rp mg G (.lst ds) (.ref a)
  | dicK {a : Addr} {kvs : List (Key × V)} {es : List (D × D)} : G a = some (.dK kvs) → es.map (·.1) = kvs.map (fun p => keyD p.1) → RpL mg G (es.map (·.2)) (kvs.map (·.2)) → Rp mg G (.dic 0 es) (.ref a)
  | dicT {a : Addr} {kvs : List (List Key × V)} {es : List (D × D)} : G a = some (.dT kvs) → es.map (·.1) = kvs.map (fun p => .tup (p.1.map keyD)) → RpL mg G (es.map (·.2)) (kvs.map (·.2)) → Rp mg G (.dic 1 es) (.ref a)
  | dicN {a : Addr} {kvs : List (NK × Addr × V)} {es : List (D × D)} : G a = some (nDict mg.w a kvs) → (∀ e ∈ kvs, NTup G e.1 e.2.1) → es.map (·.1) = kvs.map (fun p => nkD p.1) → RpL mg G (es.map (·.2)) (kvs.map (·.2.2)) → Rp mg G (.dic 2 es) (.ref a)
  | ins {a C dx : Addr} {c : Str} {fs : List (Str × V)} {gs : List (Str × D)} : mg.mg c = some (.ref C) → G a = some (.ins C dx fs) → gs.map (·.1) = fs.map (·.1) → RpL mg G (gs.map (·.2)) (fs.map (·.2)) → Rp mg G (.ins c gs) (.ref a)
  | sel {a C dx : Addr} {c : Str} {fs : List (Str × V)} {gs : List (Str × D)} : mg.mg c = some (.ref C) → G a = some (.ins C dx fs) → gs.map (·.1) = fs.map (·.1) → RpL mg G (gs.map (·.2)) (fs.map (·.2)) → Rp mg G (.sel a c gs) (.ref a)
  | exn0 {a : Addr} {oe : Obj} {c : Str} {cls : Value} : G a = some (.frz oe (.own a)) → Zc cls none oe → (∃ vs, oe.data = .fields vs) → mg.mg c = some cls → Rp mg G (.exn c []) (.ref a)
  | exnF {a dd : Addr} {oe : Obj} {c : Str} {cls : Value} {fs : List (Str × D)} {vs : List (Str × V)} : G a = some (.frz oe (.own a)) → Zc cls (some dd) oe → (∃ vs, oe.data = .fields vs) → mg.mg c = some cls → G dd = some (.xd vs) → fs.map (·.1) = vs.map (·.1) → RpL mg G (fs.map (·.2)) (vs.map (·.2)) → Rp mg G (.exn c fs) (.ref a)
inductive RpL (mg : Gm) (G : Vw) : List D → List V → Prop
  | nil : RpL mg G [] []
  | cons {d : D} {ds : List D} {v : V} {vs : List V} : Rp mg G d v → RpL mg G ds vs → RpL mg G (d :: ds) (v :: vs)
end
def RpX (mg : Gm) (G : Vw) (c : Str) (fs : List (Str × D)) (cls : Value) (dd : Option Addr) : Prop :=
  mg.mg c = some cls ∧ ((fs = [] ∧ dd = none) ∨ ∃ (d : Addr) (vs : List (Str × V)), dd = some d ∧ G d = some (.xd vs) ∧ fs.map (·.1) = vs.map (·.1) ∧ RpL mg G (fs.map (·.2)) (vs.map (·.2)))

def vw (H : Hp) : Vw := fun a => match H a with
  | some (.frz _ (.lst xs)) => some (.lst xs)
  | some (.frz _ (.dK xs)) => some (.dK xs)
  | some (.frz _ (.dT xs)) => some (.dT xs)
  | some (.frz _ (.ext p)) => some (.ext p)
  | x => x
def Sh (M : Addr → Bool) (G : Vw) : Vw := fun a => if M a = true then none else G a
def vis (fl : Bool) (M : Addr → Bool) (G : Vw) : Vw := if fl = true then Sh M G else G
def VEx (G G' : Vw) : Prop := ∀ a u, G a = some u → G' a = some u
def Ext (H H' : Hp) : Prop := ∀ a o, H a = some o → H' a = some o
theorem VEx.refl (G : Vw) : VEx G G := fun _ _ h => h
theorem VEx.trans {G G' G'' : Vw} (a : VEx G G') (b : VEx G' G'') : VEx G G'' := fun x u h => b x u (a x u h)
theorem Ext.refl (H : Hp) : Ext H H := fun _ _ h => h
theorem Ext.trans {H H1 H2 : Hp} (a : Ext H H1) (b : Ext H1 H2) : Ext H H2 := fun x o h => b x o (a x o h)
theorem Ext.v {H H' : Hp} (e : Ext H H') : VEx (vw H) (vw H') := fun a u h => by
  cases q : H a with
  | none => unfold vw at h; rw [q] at h; cases h
  | some o =>
    have q' := e a o q
    unfold vw at h ⊢
    rw [q] at h
    rw [q']
    exact h
theorem vw_none {H : Hp} {a : Addr} : vw H a = none ↔ H a = none := by
  unfold vw
  constructor
  · intro h
    split at h <;> first | (cases h; done) | exact h
  · intro h
    rw [h]
theorem Ext.fresh {H H' : Hp} (e : Ext H H') {p : Addr} (h : H' p = none) : H p = none := by
  cases q : H p with
  | none => rfl
  | some o => rw [e p o q] at h; cases h
def NF : HO → Prop
  | .frz _ _ => False
  | _ => True
theorem vw_of {H : Hp} {a : Addr} {o : HO} (h : H a = some o) (n : NF o) : vw H a = some o := by
  unfold vw
  rw [h]
  cases o <;> first | rfl | exact n.elim
theorem vw_upd_ne {H : Hp} {a p : Addr} {o : HO} (h : a ≠ p) : vw (upd H p o) a = vw H a := by
  unfold vw
  rw [upd_ne h]
theorem vw_upd_same {H : Hp} {p : Addr} {o : HO} (n : NF o) : vw (upd H p o) p = some o := vw_of upd_same n
theorem Ext.new {H : Hp} {p : Addr} {o : HO} (h : H p = none) : Ext H (upd H p o) := fun a u e => by
  rw [upd_ne (ne_of_none e h)]
  exact e
theorem Ext.mut {H H' : Hp} {p : Addr} {o : HO} (e : Ext H H') (h : H p = none) : Ext H (upd H' p o) := fun a u q => by
  rw [upd_ne (ne_of_none q h)]
  exact e a u q
theorem vw_lst {H : Hp} {a : Addr} {xs : List V} (h : vw H a = some (.lst xs)) : Rd H a (.lst xs) := by
  unfold vw at h
  split at h <;> first | (cases h; done) | skip
  · rename_i o ys e; cases h; exact .inr ⟨o, e⟩
  · exact .inl h
theorem vw_dK {H : Hp} {a : Addr} {xs : List (Key × V)} (h : vw H a = some (.dK xs)) : Rd H a (.dK xs) := by
  unfold vw at h
  split at h <;> first | (cases h; done) | skip
  · rename_i o ys e; cases h; exact .inr ⟨o, e⟩
  · exact .inl h
theorem vw_dT {H : Hp} {a : Addr} {xs : List (List Key × V)} (h : vw H a = some (.dT xs)) : Rd H a (.dT xs) := by
  unfold vw at h
  split at h <;> first | (cases h; done) | skip
  · rename_i o ys e; cases h; exact .inr ⟨o, e⟩
  · exact .inl h
theorem vw_tup {H : Hp} {a : Addr} {xs : List V} (h : vw H a = some (.tup xs)) : H a = some (.tup xs) := by
  unfold vw at h
  split at h <;> first | (cases h; done) | exact h
theorem ScrAt.sq {K : PySem.W.Frag} {H : Hp} {a : Addr} {ns : List Int} (h : ScrAt K (vw H) a ns) : SqL K H a (ns.map V.int) := h.imp vw_lst id
theorem Sh_some {M : Addr → Bool} {G : Vw} {a : Addr} {u : HO} (h : Sh M G a = some u) : M a = false ∧ G a = some u := by
  unfold Sh at h
  split at h
  · cases h
  · rename_i hm; exact ⟨by simpa using hm, h⟩
theorem Sh_of {M : Addr → Bool} {G : Vw} {a : Addr} (h : M a = false) : Sh M G a = G a := by
  unfold Sh
  rw [if_neg (by rw [h]; exact Bool.false_ne_true)]
theorem Sh_le (M : Addr → Bool) (G : Vw) : VEx (Sh M G) G := fun a u h => (Sh_some h).2
theorem Sh_mono {M : Addr → Bool} {G G' : Vw} (e : VEx G G') : VEx (Sh M G) (Sh M G') := fun a u h => by
  obtain ⟨h1, h2⟩ := Sh_some h
  rw [Sh_of h1]; exact e a u h2
theorem vis_le (fl : Bool) (M : Addr → Bool) (G : Vw) : VEx (vis fl M G) G := by
  cases fl with
  | true => exact Sh_le M G
  | false => exact .refl _
theorem vis_mono {fl : Bool} {M : Addr → Bool} {G G' : Vw} (e : VEx G G') : VEx (vis fl M G) (vis fl M G') := by
  cases fl with
  | true => exact Sh_mono e
  | false => exact e
theorem Sh_vis (fl : Bool) (M : Addr → Bool) (G : Vw) : VEx (Sh M G) (vis fl M G) := by
  cases fl with
  | true => exact .refl _
  | false => exact Sh_le M G
theorem NItems.mono {G G' : Vw} (e : VEx G G') : ∀ {k : NK} {xs : List V}, NItems G k xs → NItems G' k xs
  | _, _, .nil => .nil
  | .inl _ :: _, _, .cons h r => .cons h (NItems.mono e r)
  | .inr _ :: _, _, .cons h r => .cons (let ⟨b, h1, h2⟩ := h; ⟨b, h1, e _ _ h2⟩) (NItems.mono e r)
theorem NTup.mono {G G' : Vw} (e : VEx G G') {k : NK} {q : Addr} (h : NTup G k q) : NTup G' k q :=
  let ⟨xs, h1, h2⟩ := h
  ⟨xs, e _ _ h1, h2.mono e⟩
mutual
theorem Rp.mono {mg : Gm} {G G' : Vw} (e : VEx G G') : ∀ {d : D} {v : V}, Rp mg G d v → Rp mg G' d v
  | _, _, .non => .non
  | _, _, .bl b => .bl b
  | _, _, .int i => .int i
  | _, _, .str s => .str s
  | _, _, .scr h => .scr (h.mono e)
  | _, _, .tup h r => .tup (e _ _ h) (RpL.mono e r)
  | _, _, .lst h r => .lst (e _ _ h) (RpL.mono e r)
  | _, _, .dicK h k r => .dicK (e _ _ h) k (RpL.mono e r)
  | _, _, .dicT h k r => .dicT (e _ _ h) k (RpL.mono e r)
  | _, _, .dicN h n k r => .dicN (e _ _ h) (fun x hx => (n x hx).mono e) k (RpL.mono e r)
  | _, _, .ins m h k r => .ins m (e _ _ h) k (RpL.mono e r)
  | _, _, .sel m h k r => .sel m (e _ _ h) k (RpL.mono e r)
  | _, _, .exn0 h z d m => .exn0 (e _ _ h) z d m
  | _, _, .exnF h z d m x k r => .exnF (e _ _ h) z d m (e _ _ x) k (RpL.mono e r)
theorem RpL.mono {mg : Gm} {G G' : Vw} (e : VEx G G') : ∀ {ds : List D} {vs : List V}, RpL mg G ds vs → RpL mg G' ds vs
  | _, _, .nil => .nil
  | _, _, .cons h r => .cons (Rp.mono e h) (RpL.mono e r)
end
theorem RpX.mono {mg : Gm} {G G' : Vw} (e : VEx G G') {c : Str} {fs : List (Str × D)} {cls : Value} {dd : Option Addr} (h : RpX mg G c fs cls dd) : RpX mg G' c fs cls dd := by
  obtain ⟨h1, h2 | ⟨d, vs, h2, h3, h4, h5⟩⟩ := h
  · exact ⟨h1, .inl h2⟩
  · exact ⟨h1, .inr ⟨d, vs, h2, e _ _ h3, h4, h5.mono e⟩⟩
def immut : D → Bool
  | .tup ds => immuts ds
  | .lst _ => false
  | .scr _ => false
  | .dic _ _ => false
  | .ins _ _ => false
  | .exn _ _ => false
  | .sel _ _ _ => false
  | _ => true
where immuts : List D → Bool
  | [] => true
  | d :: ds => immut d && immuts ds
mutual
theorem Rp.imm {mg : Gm} {G G' : Vw} (e : ∀ a xs, G a = some (.tup xs) → G' a = some (.tup xs)) : ∀ {d : D} {v : V}, Rp mg G d v → immut d = true → Rp mg G' d v
  | _, _, .non, _ => .non
  | _, _, .bl b, _ => .bl b
  | _, _, .int i, _ => .int i
  | _, _, .str s, _ => .str s
  | _, _, .tup h r, q => .tup (e _ _ h) (RpL.imm e r q)
  | _, _, .scr h, q => by cases q
  | _, _, .lst h r, q => by cases q
  | _, _, .dicK h k r, q => by cases q
  | _, _, .dicT h k r, q => by cases q
  | _, _, .dicN h n k r, q => by cases q
  | _, _, .ins m h k r, q => by cases q
  | _, _, .sel m h k r, q => by cases q
  | _, _, .exn0 .., q => by cases q
  | _, _, .exnF .., q => by cases q
theorem RpL.imm {mg : Gm} {G G' : Vw} (e : ∀ a xs, G a = some (.tup xs) → G' a = some (.tup xs)) : ∀ {ds : List D} {vs : List V}, RpL mg G ds vs → immut.immuts ds = true → RpL mg G' ds vs
  | _, _, .nil, _ => .nil
  | _, _, .cons h r, q => by
    obtain ⟨q1, q2⟩ := Bool.and_eq_true_iff.mp (show (immut _ && immut.immuts _) = true from q)
    exact .cons (Rp.imm e h q1) (RpL.imm e r q2)
end
theorem RpL.length {mg : Gm} {G : Vw} : ∀ {ds : List D} {vs : List V}, RpL mg G ds vs → ds.length = vs.length
  | _, _, .nil => rfl
  | _, _, .cons _ r => by rw [List.length_cons, List.length_cons, r.length]
theorem RpL.get {mg : Gm} {G : Vw} : ∀ {ds : List D} {vs : List V} {i : Nat} {d : D}, RpL mg G ds vs → ds[i]? = some d → ∃ v, vs[i]? = some v ∧ Rp mg G d v
  | _, _, _, _, .nil, e => by simp at e
  | _, _, 0, _, .cons r _, e => by simp at e; subst e; exact ⟨_, rfl, r⟩
  | _, _, i + 1, _, .cons _ t, e => by
    obtain ⟨v, h1, h2⟩ := RpL.get (i := i) t (by simpa using e)
    exact ⟨v, by simpa using h1, h2⟩
theorem RpL.append {mg : Gm} {G : Vw} : ∀ {ds ds' : List D} {vs vs' : List V}, RpL mg G ds vs → RpL mg G ds' vs' → RpL mg G (ds ++ ds') (vs ++ vs')
  | _, _, _, _, .nil, h => h
  | _, _, _, _, .cons h r, t => .cons h (RpL.append r t)
theorem RpL.take {mg : Gm} {G : Vw} : ∀ {ds : List D} {vs : List V} (n : Nat), RpL mg G ds vs → RpL mg G (ds.take n) (vs.take n)
  | _, _, 0, _ => .nil
  | _, _, _ + 1, .nil => .nil
  | _, _, n + 1, .cons h r => .cons h (RpL.take n r)
theorem RpL.drop {mg : Gm} {G : Vw} : ∀ {ds : List D} {vs : List V} (n : Nat), RpL mg G ds vs → RpL mg G (ds.drop n) (vs.drop n)
  | _, _, 0, h => h
  | _, _, _ + 1, .nil => .nil
  | _, _, n + 1, .cons _ r => RpL.drop n r
theorem RpL.set {mg : Gm} {G : Vw} {d : D} {v : V} (r : Rp mg G d v) : ∀ {ds : List D} {vs : List V} (i : Nat), RpL mg G ds vs → RpL mg G (ds.set i d) (vs.set i v)
  | _, _, _, .nil => .nil
  | _, _, 0, .cons _ t => .cons r t
  | _, _, i + 1, .cons q t => .cons q (RpL.set r i t)
theorem RpL.one {mg : Gm} {G : Vw} {d : D} {vs : List V} (h : RpL mg G [d] vs) : ∃ v, vs = [v] ∧ Rp mg G d v := by
  cases h with
  | cons h t => cases t; exact ⟨_, rfl, h⟩
theorem RpL.two {mg : Gm} {G : Vw} {d e : D} {vs : List V} (h : RpL mg G [d, e] vs) : ∃ v w, vs = [v, w] ∧ Rp mg G d v ∧ Rp mg G e w := by
  cases h with
  | cons h t => obtain ⟨w, rfl, q⟩ := t.one; exact ⟨_, w, rfl, h, q⟩
end VL

set_option maxRecDepth 100000
set_option maxHeartbeats 1000000
namespace VL
open PySem L2

def OwOk (mg : Gm) (M : Addr → Bool) (H : Hp) (p : Addr) : D → Prop
  | .lst ds => ∃ xs, H p = some (.lst xs) ∧ RpL mg (Sh M (vw H)) ds xs
  | .dic 0 es => ∃ kvs : List (Key × V), H p = some (.dK kvs) ∧ es.map (·.1) = kvs.map (fun p => keyD p.1) ∧ RpL mg (Sh M (vw H)) (es.map (·.2)) (kvs.map (·.2))
  | .dic 1 es => ∃ kvs : List (List Key × V), H p = some (.dT kvs) ∧ es.map (·.1) = kvs.map (fun p => .tup (p.1.map keyD)) ∧ RpL mg (Sh M (vw H)) (es.map (·.2)) (kvs.map (·.2))
  | .dic 2 es => ∃ kvs : List (NK × Addr × V), H p = some (nDict mg.w p kvs) ∧ (∀ e ∈ kvs, NTup (Sh M (vw H)) e.1 e.2.1) ∧ es.map (·.1) = kvs.map (fun p => nkD p.1) ∧ RpL mg (Sh M (vw H)) (es.map (·.2)) (kvs.map (·.2.2))
  | .sel x c gs => p = x ∧ ∃ (C dx : Addr) (fs : List (Str × V)), mg.mg c = some (.ref C) ∧ H p = some (.ins C dx fs) ∧ gs.map (·.1) = fs.map (·.1) ∧ RpL mg (Sh M (vw H)) (gs.map (·.2)) (fs.map (·.2))
  | .ins c gs => ∃ (C dx : Addr) (fs : List (Str × V)), mg.mg c = some (.ref C) ∧ H p = some (.ins C dx fs) ∧ gs.map (·.1) = fs.map (·.1) ∧ RpL mg (Sh M (vw H)) (gs.map (·.2)) (fs.map (·.2))
  | _ => False
structure MOk (M : Addr → Bool) (H : Hp) : Prop where
  dom : ∀ a, M a = true → ∃ o, H a = some o
  tup : ∀ a xs, M a = true → H a ≠ some (.tup xs)
  xd : ∀ a fs, M a = true → H a ≠ some (.xd fs)
def SlotOk (mg : Gm) (M0 M : Addr → Bool) (H : Hp) (v : Option (Option V)) : Sl → Prop
  | .no => True
  | .sh d => ∃ x, v = some (some x) ∧ Rp mg (Sh M (vw H)) d x
  | .ow d => ∃ p, v = some (some (.ref p)) ∧ M p = true ∧ M0 p = false ∧ OwOk mg M H p d
def isOw : Option Sl → Bool
  | some (.ow _) => true
  | _ => false
structure Good (mg : Gm) (H0 : Hp) (M0 M : Addr → Bool) (H : Hp) (σ : St) (env : Env) : Prop where
  len : σ.length = env.length
  ok : MOk M H
  sub : ∀ a, M0 a = true → M a = true
  new : ∀ a, M a = true → M0 a = true ∨ H0 a = none
  ok0 : MOk M0 H0
  ex : Ext H0 H
  sl : ∀ (i : Nat) (s : Sl), env[i]? = some s → SlotOk mg M0 M H σ[i]? s
  inj : ∀ (i j : Nat) (p : Addr), i ≠ j → isOw env[i]? = true → isOw env[j]? = true → σ[i]? = some (some (.ref p)) → σ[j]? ≠ some (some (.ref p))
theorem MOk.mono {M : Addr → Bool} {H H' : Hp} (m : MOk M H) (e : Ext H H') : MOk M H' where
  dom := fun a h => by
    obtain ⟨u, q⟩ := m.dom a h
    exact ⟨u, e a u q⟩
  tup := fun a xs h z => by
    obtain ⟨u, q⟩ := m.dom a h
    have h1 := e a u q
    rw [z] at h1
    cases h1
    exact m.tup a xs h q
  xd := fun a fs h z => by
    obtain ⟨u, q⟩ := m.dom a h
    have h1 := e a u q
    rw [z] at h1
    cases h1
    exact m.xd a fs h q
theorem MOk.empty {H : Hp} : MOk (fun _ => false) H := ⟨fun _ h => Bool.noConfusion h, fun _ _ h => Bool.noConfusion h, fun _ _ h => Bool.noConfusion h⟩
theorem OwOk.mono {mg : Gm} {M : Addr → Bool} {H H' : Hp} {p : Addr} (e : Ext H H') : ∀ {d : D}, OwOk mg M H p d → OwOk mg M H' p d
  | .lst ds, ⟨xs, h, r⟩ => ⟨xs, e _ _ h, r.mono (Sh_mono e.v)⟩
  | .dic 0 es, ⟨kvs, h, k, r⟩ => ⟨kvs, e _ _ h, k, r.mono (Sh_mono e.v)⟩
  | .dic 1 es, ⟨kvs, h, k, r⟩ => ⟨kvs, e _ _ h, k, r.mono (Sh_mono e.v)⟩
  | .dic 2 es, ⟨kvs, h, n, k, r⟩ => ⟨kvs, e _ _ h, fun x hx => (n x hx).mono (Sh_mono e.v), k, r.mono (Sh_mono e.v)⟩
  | .dic (_ + 3) _, h => h.elim
  | .ins c gs, ⟨C, dx, fs, m, h, k, r⟩ => ⟨C, dx, fs, m, e _ _ h, k, r.mono (Sh_mono e.v)⟩
  | .non, h => h.elim
  | .bl _, h => h.elim
  | .int _, h => h.elim
  | .str _, h => h.elim
  | .tup _, h => h.elim
  | .scr _, h => h.elim
  | .exn _ _, h => h.elim
  | .sel x c gs, ⟨q, C, dx, fs, m, h, k, r⟩ => ⟨q, C, dx, fs, m, e _ _ h, k, r.mono (Sh_mono e.v)⟩
theorem SlotOk.mono {mg : Gm} {M0 M : Addr → Bool} {H H' : Hp} {v : Option (Option V)} (e : Ext H H') : ∀ {s : Sl}, SlotOk mg M0 M H v s → SlotOk mg M0 M H' v s
  | .no, _ => trivial
  | .sh d, ⟨x, h, r⟩ => ⟨x, h, r.mono (Sh_mono e.v)⟩
  | .ow d, ⟨p, h, m, m0, r⟩ => ⟨p, h, m, m0, r.mono e⟩
theorem Good.mono {mg : Gm} {H0 : Hp} {M0 M : Addr → Bool} {H H' : Hp} {σ : St} {env : Env} (g : Good mg H0 M0 M H σ env) (e : Ext H H') : Good mg H0 M0 M H' σ env :=
  ⟨g.len, g.ok.mono e, g.sub, g.new, g.ok0, g.ex.trans e, fun i s h => (g.sl i s h).mono e, g.inj⟩

abbrev gm (X : Cx) : Gm := ⟨X.prog, X.w, X.K, X.mg⟩
def PostE (X : Cx) (W : WX) (fl : Bool) (M : Addr → Bool) (σ : St) (H : Hp) (Q : VK) : Res D → Prop
  | .ok d => ∀ v H', Ext H H' → Rp (gm X) (vis fl M (vw H')) d v → Q v H'
  | .exc c fs => ∀ cls dd H', Ext H H' → RpX (gm X) (Sh M (vw H')) c fs cls dd → W cls dd σ H'
  | .bad => False
def PostA (X : Cx) (W : WX) (fl : Bool) (M : Addr → Bool) (σ : St) (H : Hp) (Q : List V → Hp → Prop) : Res (List D) → Prop
  | .ok ds => ∀ vs H', Ext H H' → RpL (gm X) (vis fl M (vw H')) ds vs → Q vs H'
  | .exc c fs => ∀ cls dd H', Ext H H' → RpX (gm X) (Sh M (vw H')) c fs cls dd → W cls dd σ H'
  | .bad => False
def PostT {α : Type} (X : Cx) (W : WX) (M : Addr → Bool) (σ : St) (H : Hp) (Q : α → Hp → Prop) : Res α → Prop
  | .ok b => ∀ H', Ext H H' → Q b H'
  | .exc c fs => ∀ cls dd H', Ext H H' → RpX (gm X) (Sh M (vw H')) c fs cls dd → W cls dd σ H'
  | .bad => False
def VE (X : Cx) (W : WX) (fl : Bool) (e : Expr) (φ : Env → Res D) : Prop :=
  ∃ t : TE, PE X e t ∧ ∀ (H0 : Hp) (M0 M : Addr → Bool) (H : Hp) (σ : St) (env : Env) (Q : VK), Good (gm X) H0 M0 M H σ env → PostE X W fl M σ H Q (φ env) → t σ H Q
def VA (X : Cx) (W : WX) (fl : Bool) (es : List Expr) (φ : Env → Res (List D)) : Prop :=
  ∃ t : TA, PA X es t ∧ ∀ (H0 : Hp) (M0 M : Addr → Bool) (H : Hp) (σ : St) (env : Env) (Q : List V → Hp → Prop), Good (gm X) H0 M0 M H σ env → PostA X W fl M σ H Q (φ env) → t σ H Q
def VT (X : Cx) (W : WX) (e : Expr) (φ : Env → Res Bool) : Prop :=
  ∃ t : TT, PT X e t ∧ ∀ (H0 : Hp) (M0 M : Addr → Bool) (H : Hp) (σ : St) (env : Env) (Q : Bool → Hp → Prop), Good (gm X) H0 M0 M H σ env → PostT X W M σ H Q (φ env) → t σ H Q
section
variable {X : Cx} {W : WX} {fl fla flb : Bool} {M : Addr → Bool} {σ : St} {H H' : Hp} {Q : VK}
theorem PostE.mono {r : Res D} (h : PostE X W fl M σ H Q r) (e : Ext H H') : PostE X W fl M σ H' Q r := by
  cases r with
  | ok d => exact fun v H2 e2 r => h v H2 (e.trans e2) r
  | exc c fs => exact fun cls dd H2 e2 r => h cls dd H2 (e.trans e2) r
  | bad => exact h
theorem PostE.ite {c : Prop} [Decidable c] {r : Res D} (h : PostE X W fl M σ H Q (if c then r else .bad)) : c ∧ PostE X W fl M σ H Q r := by
  by_cases hc : c
  · rw [if_pos hc] at h; exact ⟨hc, h⟩
  · rw [if_neg hc] at h; exact h.elim
theorem PostE.seq {r : Res D} {f : D → Res D} {Q' : VK} (h : PostE X W fl M σ H Q (r.bind f))
    (k : ∀ d v H1, Ext H H1 → Rp (gm X) (vis fla M (vw H1)) d v → PostE X W fl M σ H1 Q (f d) → Q' v H1) : PostE X W fla M σ H Q' r := by
  cases r with
  | ok d => exact fun v H1 e1 r1 => k d v H1 e1 r1 (PostE.mono h e1)
  | exc c fs => exact h
  | bad => exact h
theorem PostA.mono {r : Res (List D)} {Q : List V → Hp → Prop} (h : PostA X W fl M σ H Q r) (e : Ext H H') : PostA X W fl M σ H' Q r := by
  cases r with
  | ok d => exact fun v H2 e2 r => h v H2 (e.trans e2) r
  | exc c fs => exact fun cls dd H2 e2 r => h cls dd H2 (e.trans e2) r
  | bad => exact h
theorem PostT.mono {α : Type} {r : Res α} {Q : α → Hp → Prop} (h : PostT X W M σ H Q r) (e : Ext H H') : PostT X W M σ H' Q r := by
  cases r with
  | ok d => exact fun H2 e2 => h H2 (e.trans e2)
  | exc c fs => exact fun cls dd H2 e2 r => h cls dd H2 (e.trans e2) r
  | bad => exact h
theorem PostA.head {r : Res D} {f : D → Res (List D)} {Q : List V → Hp → Prop} {Q' : VK} (h : PostA X W fl M σ H Q (r.bind f))
    (k : ∀ d v H1, Ext H H1 → Rp (gm X) (vis fl M (vw H1)) d v → PostA X W fl M σ H1 Q (f d) → Q' v H1) : PostE X W fl M σ H Q' r := by
  cases r with
  | ok d => exact fun v H1 e1 r1 => k d v H1 e1 r1 (PostA.mono h e1)
  | exc c fs => exact h
  | bad => exact h
theorem PostA.tail {r : Res (List D)} {f : List D → Res (List D)} {Q Q' : List V → Hp → Prop} (h : PostA X W fl M σ H Q (r.bind f))
    (k : ∀ d v H1, Ext H H1 → RpL (gm X) (vis fl M (vw H1)) d v → PostA X W fl M σ H1 Q (f d) → Q' v H1) : PostA X W fl M σ H Q' r := by
  cases r with
  | ok d => exact fun v H1 e1 r1 => k d v H1 e1 r1 (PostA.mono h e1)
  | exc c fs => exact h
  | bad => exact h
theorem PostE.args {r : Res (List D)} {f : List D → Res D} {Q' : List V → Hp → Prop} (h : PostE X W fl M σ H Q (r.bind f))
    (k : ∀ ds vs H1, Ext H H1 → RpL (gm X) (vis fla M (vw H1)) ds vs → PostE X W fl M σ H1 Q (f ds) → Q' vs H1) : PostA X W fla M σ H Q' r := by
  cases r with
  | ok d => exact fun v H1 e1 r1 => k d v H1 e1 r1 (PostE.mono h e1)
  | exc c fs => exact h
  | bad => exact h
theorem PostT.seq {α : Type} {r : Res D} {f : D → Res α} {Q : α → Hp → Prop} {Q' : VK} (h : PostT X W M σ H Q (r.bind f))
    (k : ∀ d v H1, Ext H H1 → Rp (gm X) (vis fl M (vw H1)) d v → PostT X W M σ H1 Q (f d) → Q' v H1) : PostE X W fl M σ H Q' r := by
  cases r with
  | ok d => exact fun v H1 e1 r1 => k d v H1 e1 r1 (PostT.mono h e1)
  | exc c fs => exact h
  | bad => exact h
theorem PostT.tst {α β : Type} {r : Res α} {f : α → Res β} {Q : β → Hp → Prop} {Q' : α → Hp → Prop} (h : PostT X W M σ H Q (r.bind f))
    (k : ∀ b H1, Ext H H1 → PostT X W M σ H1 Q (f b) → Q' b H1) : PostT X W M σ H Q' r := by
  cases r with
  | ok d => exact fun H1 e1 => k d H1 e1 (PostT.mono h e1)
  | exc c fs => exact h
  | bad => exact h
theorem PostE.tst {α : Type} {r : Res α} {f : α → Res D} {Q' : α → Hp → Prop} (h : PostE X W fl M σ H Q (r.bind f))
    (k : ∀ b H1, Ext H H1 → PostE X W fl M σ H1 Q (f b) → Q' b H1) : PostT X W M σ H Q' r := by
  cases r with
  | ok d => exact fun H1 e1 => k d H1 e1 (PostE.mono h e1)
  | exc c fs => exact h
  | bad => exact h
end
end VL

set_option maxRecDepth 100000
set_option maxHeartbeats 1000000
namespace VL
open PySem L2

mutual
def toPy : D → PyData
  | .non => .none
  | .bl b => .bool b
  | .int i => .int i
  | .str s => .str s
  | .scr ns => .list (ns.map .int)
  | .tup ds => .tuple (toPys ds)
  | .lst ds => .list (toPys ds)
  | .dic _ _ => .none
  | .ins _ _ => .none
  | .exn _ _ => .none
  | .sel _ _ _ => .none
def toPys : List D → List PyData
  | [] => []
  | d :: ds => toPy d :: toPys ds
end
mutual
def plain : D → Bool
  | .tup ds => plains ds
  | .lst ds => plains ds
  | .dic _ _ => false
  | .ins _ _ => false
  | .exn _ _ => false
  | .sel _ _ _ => false
  | _ => true
def plains : List D → Bool
  | [] => true
  | d :: ds => plain d && plains ds
end
def cmpOk (d : D) : Bool := plain d && SeqAt.shaped (toPy d)
def eqD (d e : D) : Bool := PyData.eqv (toPy d) (toPy e)
theorem dp_ints {K : PySem.W.Frag} {H : Hp} : ∀ ns : List Int, DpAll K H (ns.map V.int) (ns.map PyData.int)
  | [] => .nil
  | n :: ns => .cons (.int n) (dp_ints ns)
mutual
theorem Rp.dp {mg : Gm} {H : Hp} : ∀ {d : D} {v : V}, Rp mg (vw H) d v → plain d = true → Dp mg.K H v (toPy d)
  | _, _, .non, _ => .non
  | _, _, .bl b, _ => .bl b
  | _, _, .int i, _ => .int i
  | _, _, .str s, _ => .str s
  | _, _, .scr h, _ => .lst h.sq (dp_ints _)
  | _, _, .tup h r, q => .tup (.inl (.inl (vw_tup h))) (RpL.dp r q)
  | _, _, .lst h r, q => .lst (.inl (vw_lst h)) (RpL.dp r q)
  | _, _, .dicK h k r, q => by cases q
  | _, _, .dicT h k r, q => by cases q
  | _, _, .dicN h n k r, q => by cases q
  | _, _, .ins m h k r, q => by cases q
  | _, _, .sel m h k r, q => by cases q
  | _, _, .exn0 .., q => by cases q
  | _, _, .exnF .., q => by cases q
theorem RpL.dp {mg : Gm} {H : Hp} : ∀ {ds : List D} {vs : List V}, RpL mg (vw H) ds vs → plains ds = true → DpAll mg.K H vs (toPys ds)
  | _, _, .nil, _ => .nil
  | _, _, .cons h r, q => by
    obtain ⟨q1, q2⟩ := Bool.and_eq_true_iff.mp (show (plain _ && plains _) = true from q)
    exact .cons (Rp.dp h q1) (RpL.dp r q2)
end

def getP (i : Nat) (env : Env) : Res D := match env[i]? with
  | some (.sh d) => .ok d
  | _ => .bad
def getB (i : Nat) (env : Env) : Res D := match env[i]? with
  | some (.sh d) => .ok d
  | some (.ow d) => .ok d
  | _ => .bad
theorem OwOk.rp {mg : Gm} {M : Addr → Bool} {H : Hp} {p : Addr} : ∀ {d : D}, OwOk mg M H p d → Rp mg (vw H) d (.ref p)
  | .lst ds, ⟨xs, h, r⟩ => .lst (vw_of h trivial) (r.mono (Sh_le _ _))
  | .dic 0 es, ⟨kvs, h, k, r⟩ => .dicK (vw_of h trivial) k (r.mono (Sh_le _ _))
  | .dic 1 es, ⟨kvs, h, k, r⟩ => .dicT (vw_of h trivial) k (r.mono (Sh_le _ _))
  | .dic 2 es, ⟨kvs, h, n, k, r⟩ => .dicN (vw_of h trivial) (fun x hx => (n x hx).mono (Sh_le _ _)) k (r.mono (Sh_le _ _))
  | .dic (_ + 3) _, h => h.elim
  | .ins c gs, ⟨C, dx, fs, m, h, k, r⟩ => .ins m (vw_of h trivial) k (r.mono (Sh_le _ _))
  | .non, h => h.elim
  | .bl _, h => h.elim
  | .int _, h => h.elim
  | .str _, h => h.elim
  | .tup _, h => h.elim
  | .scr _, h => h.elim
  | .exn _ _, h => h.elim
  | .sel x c gs, ⟨q, C, dx, fs, m, h, k, r⟩ => by
    subst q
    exact .sel m (vw_of h trivial) k (r.mono (Sh_le _ _))
section
variable {X : Cx} {W : WX} {fl fla flb flc : Bool} {e a b c : Expr} {es : List Expr} {pos : Pos} {φ φa φb φc : Env → Res D}
theorem ve_v (i : Nat) {x : Str} (hN : X.N[i]? = some x := by rfl) (hv : Vis X.env.scope x := by first | exact Or.inl rfl | exact Or.inr (Or.inl rfl) | exact Or.inr (Or.inr rfl)) (hd : (x == ("__debug__" : Str)) = false := by decide)
    (hcd : (x == ("__classdict__" : Str)) = false := by decide) : VE X W fl (.Name x pos) (getP i) := by
  refine ⟨tVar i, pe_var hN hv hd hcd, fun H0 M0 M H σ env Q g h => ?_⟩
  unfold getP at h
  cases q : env[i]? with
  | none => rw [q] at h; exact h.elim
  | some s =>
    rw [q] at h
    cases s with
    | no => exact h.elim
    | ow d => exact h.elim
    | sh d =>
      obtain ⟨x, e, r⟩ := g.sl i _ q
      exact ⟨x, e, h x H (Ext.refl H) (r.mono (Sh_vis fl M _))⟩
def cE (d : D) (_ : Env) : Res D := .ok d
theorem ve_int {i j} : VE X W fl (.Constant (.int i) j pos) (cE (.int i)) := ⟨_, pe_int, fun _ _ _ H _ _ _ _ h => h _ H (Ext.refl H) (.int i)⟩
theorem ve_bl {i j} : VE X W fl (.Constant (.bool i) j pos) (cE (.bl i)) := ⟨_, pe_bl, fun _ _ _ H _ _ _ _ h => h _ H (Ext.refl H) (.bl i)⟩
theorem ve_str {x j} : VE X W fl (.Constant (.str x) j pos) (cE (.str x)) := ⟨_, pe_str, fun _ _ _ H _ _ _ _ h => h _ H (Ext.refl H) (.str x)⟩
def immE (φ : Env → Res D) (env : Env) : Res D := (φ env).bind fun d => if immut d = true then .ok d else .bad
def OpF (X : Cx) (W : WX) (fla flb fl : Bool) (r : R2) (f : D → D → Res D) : Prop :=
  ∀ (M : Addr → Bool) (H : Hp) (σ : L2.St) (Q : VK) (d e : D) (v w : V), MOk M H → Rp (gm X) (vis fla M (vw H)) d v → Rp (gm X) (vis flb M (vw H)) e w → PostE X W fl M σ H Q (f d e) → r v w H Q
def op2 (f : D → D → Res D) (φa φb : Env → Res D) (env : Env) : Res D := (φa env).bind fun d => (φb env).bind fun e => f d e
theorem ve_op {op : Operator} {r : R2} {f : D → D → Res D} (ho : OpR X (binaryOp op) r) (hf : OpF X W fla flb fl r f) (ha : VE X W fla a φa) (hb : VE X W flb b φb) : VE X W fl (.BinOp a op b pos) (op2 f φa φb) := by
  obtain ⟨ta, pa, ra⟩ := ha
  obtain ⟨tb, pb, rb⟩ := hb
  refine ⟨_, pe_op ho pa pb, fun H0 M0 M H σ env Q g h => ?_⟩
  refine ra H0 M0 M H σ env _ g (PostE.seq h fun d v H1 e1 r1 h1 => ?_)
  refine rb H0 M0 M H1 σ env _ (g.mono e1) (PostE.seq h1 fun d2 v2 H2 e2 r2 h2 => ?_)
  exact hf M H2 σ Q d d2 v v2 ((g.ok.mono e1).mono e2) (r1.mono (vis_mono e2.v)) r2 h2
def toB : D → Res Bool
  | .bl b => .ok b
  | _ => .bad
def tE (φ : Env → Res D) (env : Env) : Res Bool := (φ env).bind toB
theorem vt_cmp {op : CmpOp} {r : R2} {f : D → D → Res D} (ho : OpR X (compareOp op) r) (hm : behindInMarks op b = false) (hf : OpF X W fla flb true r f) (ha : VE X W fla a φa) (hb : VE X W flb b φb) : VT X W (.Compare a [op] [b] pos) (tE (op2 f φa φb)) := by
  obtain ⟨ta, pa, ra⟩ := ha
  obtain ⟨tb, pb, rb⟩ := hb
  refine ⟨_, pt_cmpR ho pa pb hm, fun H0 M0 M H σ env Q g h => ?_⟩
  have h' : PostE X W true M σ H (fun x H' => ∃ k, x = .bl k ∧ Q k H') (op2 f φa φb env) := by
    refine PostT.seq h fun d v H1 e1 r1 h1 => ?_
    cases d with
    | bl k => cases r1; exact ⟨k, rfl, h1 H1 (Ext.refl _)⟩
    | _ => exact h1.elim
  refine ra H0 M0 M H σ env _ g (PostE.seq h' fun d v H1 e1 r1 h1 => ?_)
  refine rb H0 M0 M H1 σ env _ (g.mono e1) (PostE.seq h1 fun d2 v2 H2 e2 r2 h2 => ?_)
  exact hf M H2 σ _ d d2 v v2 ((g.ok.mono e1).mono e2) (r1.mono (vis_mono e2.v)) r2 h2
theorem vt_val (h : VE X W fl e φ) (he : ∀ whole, isTrue e X.env whole = (do let v ← whole; standAt e.pos; holding [v] (truthy v)) := by intro _; rfl) : VT X W e (tE φ) := by
  obtain ⟨t, pt, rt⟩ := h
  refine ⟨_, pt_val pt he, fun H0 M0 M H σ env Q g h => ?_⟩
  refine rt H0 M0 M H σ env _ g (PostT.seq h fun d v H1 e1 r1 h1 => ?_)
  cases d with
  | bl k => cases r1; exact ⟨k, rfl, h1 H1 (Ext.refl _)⟩
  | _ => exact h1.elim
end
end VL

set_option maxRecDepth 100000
set_option maxHeartbeats 2000000
namespace VL
open PySem L2
open PySem.AutoSeq1 (wpAny_loadPart')

theorem tup_mul_same (l : Addr) (items : Array Value) (n : Nat) (dd : Option Addr) (sl : Array (Option Value)) (x : Int) (u : Tok)
    (c0 : (decide (x < -(2 ^ 63)) || decide (x ≥ 2 ^ 63)) = false) (c1 : (items.isEmpty || x == 1) = true) :
    Meets (Builtin.«tuple.__mul__» ⟨[.ref l, .int x u], []⟩)
      (fun _ R s => s.heap.get? l = some { cls := .type "tuple", dict := dd, data := .seq items n, slots := sl } ∧ R (.ok (.ret (.ref l))) s) :=
  .of_wp fun prog w A R s h => by
    obtain ⟨hp, g, d, tk, os⟩ := s
    obtain ⟨hl, h⟩ := h
    have f1 := AutoSeq1.idx_int
    wp_walk using wpAny_loadPart' hl
    repeat (first
      | (refine wpAny_ite_false (decide_eq_false (by rw [c0]; exact Bool.false_ne_true)) ?_; wp_walk using wpAny_loadPart' hl)
      | (refine wpAny_ite_true (decide_eq_true c1) ?_; wp_walk using wpAny_loadPart' hl))
    exact ⟨_, rfl, h⟩
theorem tup_mul_none (l : Addr) (items : Array Value) (n : Nat) (dd : Option Addr) (sl : Array (Option Value)) (x : Int) (u : Tok)
    (c0 : (decide (x < -(2 ^ 63)) || decide (x ≥ 2 ^ 63)) = false) (c1 : (items.isEmpty || x == 1) = false) (c2 : (decide (x ≤ 0) || items.isEmpty) = true) :
    Meets (Builtin.«tuple.__mul__» ⟨[.ref l, .int x u], []⟩)
      (fun _ R s => s.heap.get? l = some { cls := .type "tuple", dict := dd, data := .seq items n, slots := sl } ∧
        R (.ok (.ret (.ref s.heap.objs.size))) { s with heap := s.heap.push { cls := .type "tuple", data := .seq #[] }, toks := s.toks }) :=
  .of_wp fun prog w A R s h => by
    obtain ⟨hp, g, d, tk, os⟩ := s
    obtain ⟨hl, h⟩ := h
    have f1 := AutoSeq1.idx_int
    wp_walk using wpAny_loadPart' hl
    repeat (first
      | (refine wpAny_ite_false (decide_eq_false (by rw [c0]; exact Bool.false_ne_true)) ?_; wp_walk using wpAny_loadPart' hl)
      | (refine wpAny_ite_false (decide_eq_false (by rw [c1]; exact Bool.false_ne_true)) ?_; wp_walk using wpAny_loadPart' hl)
      | (refine wpAny_ite_true (decide_eq_true c2) ?_; wp_walk using wpAny_loadPart' hl))
    exact ⟨_, rfl, h⟩
section
variable {X : Cx}
def rMulT (K : PySem.W.Frag) : R2 := fun x y H Q => ∃ l k xs, x = .ref l ∧ y = .int k ∧ SqT K H l xs ∧ -1000 ≤ k ∧ k ≤ 1000 ∧ xs.length ≤ 1000 ∧
  ((xs = [] ∨ k = 1) → Q (.ref l) H) ∧ (xs ≠ [] → k ≤ 0 → ∀ p, H p = none → Q (.ref p) (upd H p (.tup []))) ∧
  (xs ≠ [] → 2 ≤ k → ∀ p, H p = none → Q (.ref p) (upd H p (.tup (List.replicate k.toNat xs).flatten)))
theorem op_mulT : OpR X (binaryOp .Mult) (rMulT X.K) := by
  intro pins s σ H x y v u Q I rx ry h
  obtain ⟨l, k, xs, ex, ey, hT, hlo, hhi, hlen, q1, q2, q3⟩ := h
  by_cases big : xs ≠ [] ∧ 2 ≤ k
  · exact op_repT pins s σ H x y v u Q I rx ry ⟨l, k, xs, ex, ey, hT, big.1, big.2, hhi, hlen, q3 big.1 big.2⟩
  · subst ex; subst ey
    cases rx
    obtain ⟨t, rfl⟩ := ry
    obtain ⟨its, r, ⟨⟨cls, dd, data, sl⟩, ho, hc, n, hd⟩, hs⟩ := I.tuple hT
    simp only at hc hd
    subst hc hd
    have hlr : its.length = xs.length := r.length.symm
    have c0 : (decide (k < -(2 ^ 63)) || decide (k ≥ 2 ^ 63)) = false := by
      rw [decide_eq_false (by omega), decide_eq_false (by omega)]
      exact rfl
    by_cases same : xs = [] ∨ k = 1
    · have c1 : (its.toArray.isEmpty || k == 1) = true := by
        rcases same with e | e
        · subst e
          have : its = [] := List.eq_nil_of_length_eq_zero (by rw [hlr]; exact List.length_nil)
          subst this
          exact rfl
        · subst e
          exact Bool.or_true _
      refine wpAny_binaryOp_repeat_ref (T := "tuple") (U := "int") (by decide) ⟨_, ho, rfl⟩ (fun s' => typeIs_int s' k t) noFill_tuple_mul F.fills_int_mul F.slot_int_rmul repeat_tuple F.slot_int_index.lookup
        (call_meets F.slot_int_rmul (typeIs_int s k t) F.entry_int_rmul (F.args_int_rmul_2 _ _) (int_rmul_tuple k t l its.toArray n dd sl)
          ⟨ho, rfl, ⟨_, ho, rfl⟩, call_meets F.slot_tuple_mul ⟨_, ho, rfl⟩ F.entry_tuple_mul (F.args_tuple_mul_2 _ _) (tup_mul_same l its.toArray n dd sl k t c0 c1) ⟨ho, ?_⟩⟩)
      exact ⟨.ref l, H, I, rfl, q1 same⟩
    · have hne : xs ≠ [] := fun e => same (.inl e)
      have hk : k ≤ 0 := by
        have h1 : ¬ 2 ≤ k := fun h => big ⟨hne, h⟩
        have h2 : k ≠ 1 := fun h => same (.inr h)
        omega
      have hi : its.toArray.isEmpty = false := by
        cases its with
        | nil => exact absurd (List.eq_nil_of_length_eq_zero hlr.symm) hne
        | cons a b => exact rfl
      have c1 : (its.toArray.isEmpty || k == 1) = false := by
        rw [hi, Bool.false_or]
        exact beq_eq_false_iff_ne.mpr (by omega)
      have c2 : (decide (k ≤ 0) || its.toArray.isEmpty) = true := by
        rw [decide_eq_true hk]
        exact rfl
      refine wpAny_binaryOp_repeat_ref (T := "tuple") (U := "int") (by decide) ⟨_, ho, rfl⟩ (fun s' => typeIs_int s' k t) noFill_tuple_mul F.fills_int_mul F.slot_int_rmul repeat_tuple F.slot_int_index.lookup
        (call_meets F.slot_int_rmul (typeIs_int s k t) F.entry_int_rmul (F.args_int_rmul_2 _ _) (int_rmul_tuple k t l its.toArray n dd sl)
          ⟨ho, rfl, ⟨_, ho, rfl⟩, call_meets F.slot_tuple_mul ⟨_, ho, rfl⟩ F.entry_tuple_mul (F.args_tuple_mul_2 _ _) (tup_mul_none l its.toArray n dd sl k t c0 c1 c2) ⟨ho, ?_⟩⟩)
      exact ⟨.ref s.heap.objs.size, _, I.laid (t' := s.toks) (o := .tup []) (fun b ob q => Heap.get?_push_of_some _ q) (Nat.le_refl _) ⟨Nat.zero_le _, [], .nil, PyProof.Rows.IsTup.new _ _⟩, rfl, q2 hne hk _ (I.hok.fresh (Nat.le_refl _))⟩
def rMulS : R2 := fun x y H Q => ∃ z k, x = .str z ∧ y = .int k ∧ -1000 ≤ k ∧ k ≤ 1000 ∧ z.length ≤ 1000 ∧ Q (.str ⟨(List.replicate k.toNat z.cps.toList).flatten.toArray⟩) H
theorem foldl_cat : ∀ (n : Nat) (z : Array Nat) (a : List Nat), (List.replicate n z).foldl (· ++ ·) a.toArray = (a ++ (List.replicate n z.toList).flatten).toArray
  | 0, z, a => by simp
  | n + 1, z, a => by
    rw [List.replicate_succ, List.foldl_cons, List.replicate_succ, List.flatten_cons, ← List.append_assoc]
    have e : a.toArray ++ z = (a ++ z.toList).toArray := by simp
    rw [e]
    exact foldl_cat n z _
theorem op_mulS : OpR X (binaryOp .Mult) rMulS := by
  intro pins s σ H x y v u Q I rx ry h
  obtain ⟨z, k, rfl, rfl, hlo, hhi, hlen, q⟩ := h
  obtain ⟨t, rfl⟩ := rx
  obtain ⟨t', rfl⟩ := ry
  have c0 : (decide (k < -(2 ^ 63)) || decide (k ≥ 2 ^ 63)) = false := by
    rw [decide_eq_false (by omega), decide_eq_false (by omega)]
    exact rfl
  refine PySem.P.mul_str c0 (fun h1 h2 => ?_) (fun h1 h2 => ?_) ?_
  · have h3 : ((z.length : Nat) : Int) ≤ 1000 := by omega
    have h4 : (1000 : Int) ≤ (2 ^ 63 - 1) / k := by
      refine (Int.le_ediv_iff_mul_le (by omega)).mpr ?_
      have : 1000 * k ≤ 1000 * 1000 := Int.mul_le_mul_of_nonneg_left hhi (by omega)
      omega
    omega
  · unfold Builtin.Str.tooLong
    have : z.length * k.toNat ≤ 1000 * 1000 := Nat.mul_le_mul hlen (by omega)
    rw [sizeLine_eq]
    exact decide_eq_false (by omega)
  · by_cases h1 : k < 1
    · rw [if_pos h1]
      have e : k.toNat = 0 := by omega
      rw [e] at q
      refine ⟨by decide, ?_⟩
      exact ⟨.str _, H, I.tok _, ⟨_, rfl⟩, q⟩
    · rw [if_neg h1]
      by_cases h2 : (k == 1 || z.length == 0) = true
      · rw [if_pos h2]
        have e : (⟨(List.replicate k.toNat z.cps.toList).flatten.toArray⟩ : Str) = z := by
          rcases Bool.or_eq_true_iff.mp h2 with h3 | h3
          · have : k = 1 := by simpa using h3
            subst this
            show (⟨(List.replicate 1 z.cps.toList).flatten.toArray⟩ : Str) = z
            simp
          · have hz : z.cps.toList = [] := List.eq_nil_of_length_eq_zero (by simpa [Str.length] using h3)
            have : z = ⟨#[]⟩ := by
              cases z with
              | mk c => simp at hz; rw [hz]
            subst this
            simp
        rw [e] at q
        exact ⟨.str z, H, I, ⟨t, rfl⟩, q⟩
      · rw [if_neg h2]
        have e : (List.replicate k.toNat z.cps).foldl (· ++ ·) #[] = (List.replicate k.toNat z.cps.toList).flatten.toArray := by
          have := foldl_cat k.toNat z.cps []
          rw [List.nil_append] at this
          exact this
        rw [e]
        refine ⟨?_, ?_⟩
        · show (List.replicate k.toNat z.cps.toList).flatten.toArray.size ≤ sizeLine
          rw [List.size_toArray, PyProof.Rows.lm_len_rep_flat, sizeLine_eq]
          have a1 : k.toNat * z.cps.toList.length ≤ 1000 * 1000 := Nat.mul_le_mul (by omega) (by simpa [Str.length] using hlen)
          omega
        · exact ⟨.str _, H, I.tok _, ⟨_, rfl⟩, q⟩
def rCatL : R2 := fun x y H Q => ∃ l b xs zs, x = .ref l ∧ y = .ref b ∧ Rd H l (.lst xs) ∧ Rd H b (.lst zs) ∧ xs.length + zs.length ≤ sizeLine ∧ ∀ p, H p = none → Q (.ref p) (upd H p (.lst (xs ++ zs)))
theorem op_catL : OpR X (binaryOp .Add) rCatL := by
  intro pins s σ H x y v u Q I rx ry h
  obtain ⟨l, b, xs, zs, rfl, rfl, hl, hb, hz, q⟩ := h
  cases rx
  cases ry
  obtain ⟨z1, i1, n1, r1, e1⟩ := hl.ok I.hok
  obtain ⟨z2, i2, n2, r2, e2⟩ := hb.ok I.hok
  have l1 := r1.length
  have l2 := r2.length
  refine PySem.P.add_list e1 e2 ?_ (by rw [List.size_toArray, List.size_toArray]; omega)
  have ea : i1.toArray ++ i2.toArray = (i1 ++ i2).toArray := by simp
  rw [ea]
  exact ⟨.ref _, _, I.lnew (t' := s.toks) (r1.append r2) (by rw [List.length_append]; exact hz), rfl, q _ I.fresh⟩
end
end VL

set_option maxRecDepth 100000
set_option maxHeartbeats 2000000
namespace VL
open PySem L2

section
variable {mg : Gm} {M : Addr → Bool} {H : Hp} {fl : Bool} {p : Addr}
theorem vis_new {o : HO} (m : MOk M H) (h : H p = none) (n : NF o) : vis fl M (vw (upd H p o)) p = some o := by
  cases fl with
  | false => exact vw_upd_same n
  | true =>
    show Sh M (vw (upd H p o)) p = some o
    rw [Sh_of]
    · exact vw_upd_same n
    · cases q : M p with
      | false => rfl
      | true =>
        obtain ⟨u, e⟩ := m.dom p q
        rw [h] at e; cases e
theorem rp_newT {ds : List D} {xs : List V} (m : MOk M H) (h : H p = none) (r : RpL mg (vis fl M (vw H)) ds xs) : Rp mg (vis fl M (vw (upd H p (.tup xs)))) (.tup ds) (.ref p) :=
  .tup (vis_new m h trivial) (r.mono (vis_mono (Ext.new h).v))
theorem rp_newL {ds : List D} {xs : List V} (m : MOk M H) (h : H p = none) (r : RpL mg (vis fl M (vw H)) ds xs) : Rp mg (vis fl M (vw (upd H p (.lst xs)))) (.lst ds) (.ref p) :=
  .lst (vis_new m h trivial) (r.mono (vis_mono (Ext.new h).v))
theorem vis_get {G : Vw} {a : Addr} {u : HO} (h : vis fl M G a = some u) : G a = some u := vis_le fl M G a u h
end

def addD : D → D → Res D
  | .int i, .int j => .ok (.int (i + j))
  | .str s, .str t => if s.length + t.length ≤ sizeLine then .ok (.str (s ++ t)) else .bad
  | .tup xs, .tup ys => if xs.length + ys.length ≤ sizeLine then .ok (.tup (xs ++ ys)) else .bad
  | .lst xs, .lst ys => if xs.length + ys.length ≤ sizeLine then .ok (.lst (xs ++ ys)) else .bad
  | _, _ => .bad
def subD : D → D → Res D
  | .int i, .int j => .ok (.int (i - j))
  | _, _ => .bad
def mulD : D → D → Res D
  | .int i, .int j => if i.natAbs.log2 + j.natAbs.log2 < 1000000 then .ok (.int (i * j)) else .bad
  | .str s, .int k => if -1000 ≤ k ∧ k ≤ 1000 ∧ s.length ≤ 1000 then .ok (.str ⟨(List.replicate k.toNat s.cps.toList).flatten.toArray⟩) else .bad
  | .tup xs, .int k => if -1000 ≤ k ∧ k ≤ 1000 ∧ xs.length ≤ 1000 then .ok (.tup (List.replicate k.toNat xs).flatten) else .bad
  | _, _ => .bad
def modD : D → D → Res D
  | .int i, .int j => if 0 < j then .ok (.int (i % j)) else .bad
  | _, _ => .bad
def fdivD : D → D → Res D
  | .int i, .int j => if 0 < j ∧ j < 1073741824 then .ok (.int (i / j)) else .bad
  | _, _ => .bad
def powD : D → D → Res D
  | .int i, .int j => if 0 ≤ j ∧ j ≤ 1000000 ∧ i.natAbs < 2 ^ 64 then .ok (.int (i ^ j.toNat)) else .bad
  | _, _ => .bad
def ltD : D → D → Res D
  | .int i, .int j => .ok (.bl (decide (i < j)))
  | _, _ => .bad
def leD : D → D → Res D
  | .int i, .int j => .ok (.bl (decide (i ≤ j)))
  | _, _ => .bad
def gtD : D → D → Res D
  | .int i, .int j => .ok (.bl (decide (j < i)))
  | _, _ => .bad
def geD : D → D → Res D
  | .int i, .int j => .ok (.bl (decide (j ≤ i)))
  | _, _ => .bad
def eqO (d e : D) : Res D := if cmpOk d = true ∧ cmpOk e = true then .ok (.bl (eqD d e)) else .bad
def neO (d e : D) : Res D := if cmpOk d = true ∧ cmpOk e = true then .ok (.bl (!eqD d e)) else .bad
def isNon : D → Bool
  | .non => true
  | _ => false
def isNO (d : D) : D → Res D
  | .non => .ok (.bl (isNon d))
  | _ => .bad
def notNO (d : D) : D → Res D
  | .non => .ok (.bl (!isNon d))
  | _ => .bad
section
variable {X : Cx} {W : WX} {fl fla flb : Bool}
def rAddA (K : PySem.W.Frag) : R2 := fun x y H Q => rI0 (fun i j => .int (i + j)) x y H Q ∨ (∃ i j, x = .str i ∧ y = .str j ∧ i.length + j.length ≤ sizeLine ∧ Q (.str (i ++ j)) H) ∨ rCatA K x y H Q ∨ rCatL x y H Q
theorem op_addA : OpR X (binaryOp .Add) (rAddA X.K) := op_add.or (op_add_str.or (op_catA.or op_catL))
theorem nil_of_lenV {mg : Gm} {G : Vw} {ds : List D} (r : RpL mg G ds []) : ds = [] := List.eq_nil_of_length_eq_zero r.length
theorem of_add : OpF X W fl fl fl (rAddA X.K) addD := by
  intro M H σ Q d e v w m rd re h
  cases rd <;> cases re <;> first | exact h.elim | skip
  case int.int i j => exact .inl ⟨i, j, rfl, rfl, h _ H (Ext.refl H) (.int _)⟩
  case str.str s t =>
    obtain ⟨hs, h⟩ := PostE.ite h
    exact .inr (.inl ⟨s, t, rfl, rfl, hs, h _ H (Ext.refl H) (.str _)⟩)
  case tup.tup a xs ds ha ra b ys es hb rb =>
    obtain ⟨hs, h⟩ := PostE.ite h
    rw [ra.length, rb.length] at hs
    refine .inr (.inr (.inl ⟨a, b, xs, ys, rfl, rfl, .inl (.inl (vw_tup (vis_get ha))), .inl (.inl (vw_tup (vis_get hb))), hs, fun hx => ?_, fun _ hy => ?_, fun _ _ p hp => ?_⟩))
    · subst hx
      have := nil_of_lenV ra
      subst this
      exact h _ H (Ext.refl H) (.tup hb rb)
    · subst hy
      have := nil_of_lenV rb
      subst this
      rw [List.append_nil] at h
      exact h _ H (Ext.refl H) (.tup ha ra)
    · exact h _ _ (Ext.new hp) (rp_newT m hp (ra.append rb))
  case lst.lst a xs ds ha ra b ys es hb rb =>
    obtain ⟨hs, h⟩ := PostE.ite h
    rw [ra.length, rb.length] at hs
    exact .inr (.inr (.inr ⟨a, b, xs, ys, rfl, rfl, vw_lst (vis_get ha), vw_lst (vis_get hb), hs, fun p hp => h _ _ (Ext.new hp) (rp_newL m hp (ra.append rb))⟩))
def rMulA (K : PySem.W.Frag) : R2 := fun x y H Q => rI CMulW (fun i j => .int (i * j)) x y H Q ∨ rMulS x y H Q ∨ rMulT K x y H Q
theorem op_mulA : OpR X (binaryOp .Mult) (rMulA X.K) := op_mulW.or (op_mulS.or op_mulT)
theorem RpL.rep {mg : Gm} {G : Vw} {ds : List D} {xs : List V} (r : RpL mg G ds xs) : ∀ n : Nat, RpL mg G (List.replicate n ds).flatten (List.replicate n xs).flatten
  | 0 => .nil
  | n + 1 => by
    rw [List.replicate_succ, List.replicate_succ, List.flatten_cons, List.flatten_cons]
    exact r.append (RpL.rep r n)
theorem rep_nil {α : Type} : ∀ n : Nat, (List.replicate n ([] : List α)).flatten = []
  | 0 => rfl
  | n + 1 => by rw [List.replicate_succ, List.flatten_cons, rep_nil n]; rfl
theorem of_mul : OpF X W fl flb fl (rMulA X.K) mulD := by
  intro M H σ Q d e v w m rd re h
  cases rd <;> cases re <;> first | exact h.elim | skip
  case int.int i j =>
    obtain ⟨hs, h⟩ := PostE.ite h
    exact .inl ⟨i, j, rfl, rfl, hs, h _ H (Ext.refl H) (.int _)⟩
  case str.int s k =>
    obtain ⟨hs, h⟩ := PostE.ite h
    exact .inr (.inl ⟨s, k, rfl, rfl, hs.1, hs.2.1, hs.2.2, h _ H (Ext.refl H) (.str _)⟩)
  case tup.int a xs ds ha ra k =>
    obtain ⟨hs, h⟩ := PostE.ite h
    rw [ra.length] at hs
    refine .inr (.inr ⟨a, k, xs, rfl, rfl, .inl (.inl (vw_tup (vis_get ha))), hs.1, hs.2.1, hs.2.2, fun hx => ?_, fun _ hk p hp => ?_, fun _ hk p hp => ?_⟩)
    · refine h _ H (Ext.refl H) ?_
      rcases hx with hx | hx
      · subst hx
        have := nil_of_lenV ra
        subst this
        rw [rep_nil]
        exact .tup ha ra
      · subst hx
        have e : (List.replicate (1 : Int).toNat ds).flatten = ds := by
          show (List.replicate 1 ds).flatten = ds
          simp
        rw [e]
        exact .tup ha ra
    · have e : k.toNat = 0 := by omega
      rw [e] at h
      exact h _ _ (Ext.new hp) (rp_newT m hp .nil)
    · exact h _ _ (Ext.new hp) (rp_newT m hp (ra.rep _))
theorem of_mod : OpF X W fla flb fl (rI (fun _ j => 0 < j) fun i j => .int (i % j)) modD := by
  intro M H σ Q d e v w m rd re h
  cases rd <;> cases re <;> first | exact h.elim | skip
  obtain ⟨hs, h⟩ := PostE.ite h
  exact ⟨_, _, rfl, rfl, hs, h _ H (Ext.refl H) (.int _)⟩
theorem of_fdiv : OpF X W fla flb fl (rI CDiv fun i j => .int (i / j)) fdivD := by
  intro M H σ Q d e v w m rd re h
  cases rd <;> cases re <;> first | exact h.elim | skip
  obtain ⟨hs, h⟩ := PostE.ite h
  exact ⟨_, _, rfl, rfl, hs, h _ H (Ext.refl H) (.int _)⟩
theorem of_pow : OpF X W fla flb fl (rI CPow fun i j => .int (i ^ j.toNat)) powD := by
  intro M H σ Q d e v w m rd re h
  cases rd <;> cases re <;> first | exact h.elim | skip
  obtain ⟨hs, h⟩ := PostE.ite h
  exact ⟨_, _, rfl, rfl, hs, h _ H (Ext.refl H) (.int _)⟩
theorem of_lt : OpF X W fla flb fl (rI0 fun i j => .bl (decide (i < j))) ltD := by
  intro M H σ Q d e v w m rd re h
  cases rd <;> cases re <;> first | exact h.elim | skip
  exact ⟨_, _, rfl, rfl, h _ H (Ext.refl H) (.bl _)⟩
theorem of_gt : OpF X W fla flb fl (rI0 fun i j => .bl (decide (j < i))) gtD := by
  intro M H σ Q d e v w m rd re h
  cases rd <;> cases re <;> first | exact h.elim | skip
  exact ⟨_, _, rfl, rfl, h _ H (Ext.refl H) (.bl _)⟩
theorem of_ge : OpF X W fla flb fl (rI0 fun i j => .bl (decide (j ≤ i))) geD := by
  intro M H σ Q d e v w m rd re h
  cases rd <;> cases re <;> first | exact h.elim | skip
  exact ⟨_, _, rfl, rfl, h _ H (Ext.refl H) (.bl _)⟩
theorem of_eq : OpF X W fla flb fl (rEqD X.K) eqO := by
  intro M H σ Q d e v w m rd re h
  obtain ⟨hs, h⟩ := PostE.ite h
  obtain ⟨p1, s1⟩ := Bool.and_eq_true_iff.mp hs.1
  obtain ⟨p2, s2⟩ := Bool.and_eq_true_iff.mp hs.2
  exact ⟨toPy d, toPy e, (rd.mono (vis_le fla M _)).dp p1, (re.mono (vis_le flb M _)).dp p2, s1, s2, h _ H (Ext.refl H) (.bl _)⟩
theorem of_ne : OpF X W fla flb fl (rNeD X.K) neO := by
  intro M H σ Q d e v w m rd re h
  obtain ⟨hs, h⟩ := PostE.ite h
  obtain ⟨p1, s1⟩ := Bool.and_eq_true_iff.mp hs.1
  obtain ⟨p2, s2⟩ := Bool.and_eq_true_iff.mp hs.2
  exact ⟨toPy d, toPy e, (rd.mono (vis_le fla M _)).dp p1, (re.mono (vis_le flb M _)).dp p2, s1, s2, h _ H (Ext.refl H) (.bl _)⟩
end
end VL

set_option maxRecDepth 100000
set_option maxHeartbeats 2000000
namespace VL
open PySem L2

def flatD : D → Bool
  | .non => true | .bl _ => true | .int _ => true | .str _ => true
  | _ => false
mutual
def eqK : D → D → Bool
  | .non, .non => true
  | .bl a, .bl b => a == b
  | .int a, .int b => a == b
  | .str a, .str b => a == b
  | .tup xs, .tup ys => eqKs xs ys
  | _, _ => false
def eqKs : List D → List D → Bool
  | [], [] => true
  | x :: xs, y :: ys => eqK x y && eqKs xs ys
  | _, _ => false
end
def keyOf : D → Option Key
  | .int i => some (.inl i)
  | .str s => some (.inr s)
  | _ => none
def keysOf : List D → Option (List Key)
  | [] => some []
  | d :: ds => match keyOf d, keysOf ds with
    | some k, some ks => some (k :: ks)
    | _, _ => none
def lookD (es : List (D × D)) (k : D) : Option D := (es.find? fun p => eqK p.1 k).map (·.2)
def inD : D → D → Res D
  | d, .lst es => if cmpOk d = true ∧ cmpOk (.lst es) = true then .ok (.bl (es.any fun z => eqD z d)) else .bad
  | d, .tup es => if flatD d = true ∧ es.all flatD = true then .ok (.bl (es.any fun z => eqD z d)) else .bad
  | .str c, .str z => match c.cps.toList with
    | [x] => .ok (.bl (decide (x ∈ z.cps.toList)))
    | _ => .bad
  | _, _ => .bad
def notD : D → Res D
  | .bl b => .ok (.bl (!b))
  | _ => .bad
section
variable {X : Cx} {W : WX} {fl fla flb : Bool}
def notInD (d e : D) : Res D := (inD d e).bind notD
end

section
variable {X : Cx} {W : WX} {fl fla flb flc : Bool} {e a b c : Expr} {rest : List Expr} {pos : Pos} {φ φa φb φc : Env → Res D} {τ τa τb : Env → Res Bool}
def chE (f f' : D → D → Res D) (φa φb φc : Env → Res D) (env : Env) : Res D := (φa env).bind fun x => (φb env).bind fun y => (f x y).bind fun z => match z with
  | .bl true => (φc env).bind fun w => f' y w
  | .bl false => .ok (.bl false)
  | _ => .bad
def andT (τa τb : Env → Res Bool) (env : Env) : Res Bool := (τa env).bind fun b => if b = true then τb env else .ok false
def orT (τa τb : Env → Res Bool) (env : Env) : Res Bool := (τa env).bind fun b => if b = true then .ok true else τb env
def notT (τ : Env → Res Bool) (env : Env) : Res Bool := (τ env).bind fun b => .ok (!b)
def VW (X : Cx) (W : WX) (e : Expr) (τ : Env → Res Bool) : Prop :=
  ∃ t : TT, PW X e t ∧ ∀ (H0 : Hp) (M0 M : Addr → Bool) (H : Hp) (σ : L2.St) (env : Env) (Q : Bool → Hp → Prop), Good (gm X) H0 M0 M H σ env → PostT X W M σ H Q (τ env) → t σ H Q
theorem vt_w (h : VW X W e τ) : VT X W e τ := by
  obtain ⟨t, p, r⟩ := h
  exact ⟨t, p.pt, r⟩
theorem vw_and1 (h : VT X W a τ) : VW X W (.BoolOp .And [a] pos) τ := by
  obtain ⟨t, p, r⟩ := h
  exact ⟨t, pw_and1 p, r⟩
theorem vw_or1 (h : VT X W a τ) : VW X W (.BoolOp .Or [a] pos) τ := by
  obtain ⟨t, p, r⟩ := h
  exact ⟨t, pw_or1 p, r⟩
theorem vw_and (ha : VT X W a τa) (hb : VW X W (.BoolOp .And (b :: rest) pos) τb) : VW X W (.BoolOp .And (a :: b :: rest) pos) (andT τa τb) := by
  obtain ⟨t, p, r⟩ := ha
  obtain ⟨t', p', r'⟩ := hb
  refine ⟨_, pw_and p p', fun H0 M0 M H σ env Q g h => ?_⟩
  refine r H0 M0 M H σ env _ g (PostT.tst h fun k H1 e1 h1 => ?_)
  cases k with
  | true => rw [if_pos rfl] at h1 ⊢; exact r' H0 M0 M H1 σ env Q (g.mono e1) h1
  | false => rw [if_neg Bool.false_ne_true] at h1 ⊢; exact h1 H1 (Ext.refl _)
theorem vw_or (ha : VT X W a τa) (hb : VW X W (.BoolOp .Or (b :: rest) pos) τb) : VW X W (.BoolOp .Or (a :: b :: rest) pos) (orT τa τb) := by
  obtain ⟨t, p, r⟩ := ha
  obtain ⟨t', p', r'⟩ := hb
  refine ⟨_, pw_or p p', fun H0 M0 M H σ env Q g h => ?_⟩
  refine r H0 M0 M H σ env _ g (PostT.tst h fun k H1 e1 h1 => ?_)
  cases k with
  | true => rw [if_pos rfl] at h1 ⊢; exact h1 H1 (Ext.refl _)
  | false => rw [if_neg Bool.false_ne_true] at h1 ⊢; exact r' H0 M0 M H1 σ env Q (g.mono e1) h1
theorem vt_not (h : VT X W a τ) : VT X W (.UnaryOp .Not a pos) (notT τ) := by
  obtain ⟨t, p, r⟩ := h
  refine ⟨_, pt_not p, fun H0 M0 M H σ env Q g h => ?_⟩
  exact r H0 M0 M H σ env _ g (PostT.tst h fun k H1 e1 h1 => h1 H1 (Ext.refl _))
def andE (φa φb : Env → Res D) (env : Env) : Res D := (φa env).bind fun d => match d with
  | .bl true => φb env
  | .bl false => .ok (.bl false)
  | _ => .bad
def orE (φa φb : Env → Res D) (env : Env) : Res D := (φa env).bind fun d => match d with
  | .bl true => .ok (.bl true)
  | .bl false => φb env
  | _ => .bad
def notE (φ : Env → Res D) (env : Env) : Res D := (φ env).bind notD
theorem ve_one {op} (h : VE X W fl a φ) : VE X W fl (.BoolOp op [a] pos) φ := by
  obtain ⟨t, p, r⟩ := h
  exact ⟨t, pe_one p, r⟩
theorem ve_and (ha : VE X W fla a φa) (hb : VE X W fl (.BoolOp .And (b :: rest) pos) φb) : VE X W fl (.BoolOp .And (a :: b :: rest) pos) (andE φa φb) := by
  obtain ⟨t, p, r⟩ := ha
  obtain ⟨t', p', r'⟩ := hb
  refine ⟨_, pe_and p p', fun H0 M0 M H σ env Q g h => ?_⟩
  refine r H0 M0 M H σ env _ g (PostE.seq h fun d v H1 e1 r1 h1 => ?_)
  cases d with
  | bl k =>
    cases r1
    refine ⟨k, rfl, ?_⟩
    cases k with
    | true => rw [if_pos rfl]; exact r' H0 M0 M H1 σ env Q (g.mono e1) h1
    | false => rw [if_neg Bool.false_ne_true]; exact h1 _ H1 (Ext.refl _) (.bl false)
  | _ => exact h1.elim
def ifE (τ : Env → Res Bool) (φa φb : Env → Res D) (env : Env) : Res D := (τ env).bind fun b => if b = true then φa env else φb env
end
end VL

set_option maxRecDepth 100000
set_option maxHeartbeats 2000000
namespace VL
open PySem L2

theorem eqK_key {k : D} {key : Key} (h : keyOf k = some key) (a : Key) : eqK (keyD a) k = decide (a = key) := by
  cases k <;> first | (cases h; done) | skip
  case int j =>
    cases h
    cases a with
    | inl i => show (i == j) = _; rw [← key_ll i j]
    | inr x => exact (decide_eq_false (fun q => by cases q)).symm
  case str s =>
    cases h
    cases a with
    | inl i => exact (decide_eq_false (fun q => by cases q)).symm
    | inr x =>
      show (x == s) = _
      rw [key_rr]
      by_cases e : x = s
      · subst e; simp
      · rw [decide_eq_false e]; simpa using e
theorem eqKs_keys : ∀ {ds : List D} {ks : List Key}, keysOf ds = some ks → ∀ as : List Key, eqKs (as.map keyD) ds = decide (as = ks)
  | [], _, h, as => by
    cases h
    cases as with
    | nil => rfl
    | cons a r => exact (decide_eq_false (fun q => by cases q)).symm
  | d :: ds, _, h, as => by
    unfold keysOf at h
    cases h1 : keyOf d with
    | none => rw [h1] at h; cases h
    | some k =>
      cases h2 : keysOf ds with
      | none => rw [h1, h2] at h; cases h
      | some ks =>
        rw [h1, h2] at h
        cases h
        cases as with
        | nil => exact (decide_eq_false (fun q => by cases q)).symm
        | cons a r =>
          show (eqK (keyD a) d && eqKs (r.map keyD) ds) = _
          rw [eqK_key h1, eqKs_keys h2]
          by_cases e1 : a = k
          · by_cases e2 : r = ks
            · subst e1; subst e2; simp
            · rw [decide_eq_true e1, decide_eq_false e2, decide_eq_false (fun q => e2 (List.cons.inj q).2)]; rfl
          · rw [decide_eq_false e1, decide_eq_false (fun q => e1 (List.cons.inj q).1)]; rfl
theorem look_of {κ : Type} [DecidableEq κ] {mg : Gm} {G : Vw} {f : κ → D} {k : D} {key : κ} (hk : ∀ a, eqK (f a) k = decide (a = key)) : ∀ {es : List (D × D)} {kvs : List (κ × V)}, es.map (·.1) = kvs.map (fun p => f p.1) → RpL mg G (es.map (·.2)) (kvs.map (·.2)) →
    match lookD es k with
    | some d => ∃ v, valV kvs key = some v ∧ Rp mg G d v
    | none => valV kvs key = none
  | [], [], _, _ => rfl
  | [], _ :: _, e, _ => by cases e
  | _ :: _, [], e, _ => by cases e
  | p :: es, q :: kvs, e, r => by
    rw [List.map_cons, List.map_cons] at e
    obtain ⟨e1, e2⟩ := List.cons.inj e
    have r' : RpL mg G (p.2 :: es.map (·.2)) (q.2 :: kvs.map (·.2)) := r
    cases r' with
    | cons r1 r2 =>
      have ih := look_of hk e2 r2
      by_cases c : q.1 = key
      · have h1 : lookD (p :: es) k = some p.2 := by
          unfold lookD
          rw [List.find?_cons_of_pos (by show eqK p.1 k = true; rw [e1, hk, decide_eq_true c])]
          rfl
        rw [h1]
        exact ⟨q.2, valV_pos c, r1⟩
      · have h1 : lookD (p :: es) k = lookD es k := by
          unfold lookD
          rw [List.find?_cons_of_neg (by show ¬ eqK p.1 k = true; rw [e1, hk, decide_eq_false c]; exact Bool.false_ne_true)]
        rw [h1, valV_neg c]
        exact ih
def keyFit (t : Nat) (k : D) : Bool := match t, k with
  | 0, k => (keyOf k).isSome
  | 1, .tup ds => (keysOf ds).isSome
  | _, _ => false
theorem rp_key {mg : Gm} {G : Vw} {k : D} {key : Key} {v : V} (r : Rp mg G k v) (h : keyOf k = some key) : v = kV key := by
  cases r <;> first | (cases h; done) | skip
  all_goals (cases h; rfl)
theorem rp_keys {mg : Gm} {G : Vw} : ∀ {ds : List D} {ks : List Key} {xs : List V}, RpL mg G ds xs → keysOf ds = some ks → xs = ks.map kV
  | [], _, _, .nil, h => by cases h; rfl
  | d :: ds, _, _, .cons r t, h => by
    unfold keysOf at h
    cases h1 : keyOf d with
    | none => rw [h1] at h; cases h
    | some k =>
      cases h2 : keysOf ds with
      | none => rw [h1, h2] at h; cases h
      | some ks =>
        rw [h1, h2] at h
        cases h
        rw [rp_key r h1, rp_keys t h2]
        rfl
def Got (mg : Gm) (G : Vw) (H : Hp) (a : Addr) (y : V) : Option D → Prop
  | some d => ∃ v, DGet H a y (some v) ∧ Rp mg G d v
  | none => DGet H a y none
theorem gotK {mg : Gm} {H : Hp} {G : Vw} {es : List (D × D)} {kvs : List (Key × V)} {a : Addr} {k : D} {y : V} (h : Rd H a (.dK kvs)) (e : es.map (·.1) = kvs.map (fun p => keyD p.1)) (r : RpL mg G (es.map (·.2)) (kvs.map (·.2)))
    (rk : Rp mg (vw H) k y) (hf : keyFit 0 k = true) : Got mg G H a y (lookD es k) := by
  cases q : keyOf k with
  | none => rw [show keyFit 0 k = (keyOf k).isSome by cases k <;> rfl, q] at hf; cases hf
  | some key =>
    have hl := look_of (eqK_key q) e r
    rw [rp_key rk q]
    cases z : lookD es k with
    | none => rw [z] at hl; exact .inl ⟨_, key, h, rfl, hl.symm⟩
    | some d =>
      rw [z] at hl
      obtain ⟨v, e1, e2⟩ := hl
      exact ⟨v, .inl ⟨_, key, h, rfl, e1.symm⟩, e2⟩
theorem gotT {mg : Gm} {H : Hp} {G : Vw} {es : List (D × D)} {kvs : List (List Key × V)} {a : Addr} {k : D} {y : V} (h : Rd H a (.dT kvs)) (e : es.map (·.1) = kvs.map (fun p => .tup (p.1.map keyD))) (r : RpL mg G (es.map (·.2)) (kvs.map (·.2)))
    (rk : Rp mg (vw H) k y) (hf : keyFit 1 k = true) : Got mg G H a y (lookD es k) := by
  cases k with
  | tup ds =>
    cases q : keysOf ds with
    | none =>
      have : keyFit 1 (.tup ds) = (keysOf ds).isSome := rfl
      rw [this, q] at hf; cases hf
    | some ks =>
      have hk : ∀ b : List Key, eqK (.tup (b.map keyD)) (.tup ds) = decide (b = ks) := fun b => by
        have : eqK (.tup (b.map keyD)) (.tup ds) = eqKs (b.map keyD) ds := by rw [eqK]
        rw [this]; exact eqKs_keys q b
      have hl := look_of hk e r
      cases rk with
      | tup hb rb =>
        have ex := rp_keys rb q
        subst ex
        cases z : lookD es (.tup ds) with
        | none => rw [z] at hl; exact .inr ⟨_, ks, _, h, rfl, vw_tup hb, hl.symm⟩
        | some d =>
          rw [z] at hl
          obtain ⟨v, e1, e2⟩ := hl
          exact ⟨v, .inr ⟨_, ks, _, h, rfl, vw_tup hb, e1.symm⟩, e2⟩
  | _ => cases hf
theorem dget_of {mg : Gm} {H : Hp} {G : Vw} {t : Nat} {es : List (D × D)} {a : Addr} {k : D} {y : V} (le : VEx G (vw H)) (rd : Rp mg G (.dic t es) (.ref a)) (rk : Rp mg (vw H) k y) (hf : keyFit t k = true) : Got mg G H a y (lookD es k) := by
  cases rd with
  | dicK h e r => exact gotK (vw_dK (le _ _ h)) e r rk hf
  | dicT h e r => exact gotT (vw_dT (le _ _ h)) e r rk hf
  | dicN h n e r => cases k <;> cases hf
def seqGet (ds : List D) (i : Int) : Res D := match atI ds i with
  | some d => .ok d
  | none => .bad
def strGet (z : Str) (i : Int) : Res D := if z.length ≤ sizeLine then (match atI z.cps.toList i with | some c => .ok (.str ⟨#[c]⟩) | none => .bad) else .bad
def getD : D → D → Res D
  | .lst ds, .int i => seqGet ds i
  | .scr ns, .int i => seqGet (ns.map .int) i
  | .tup ds, .int i => seqGet ds i
  | .str z, .int i => strGet z i
  | .dic t es, k => if keyFit t k = true then (match lookD es k with | some d => .ok d | none => .bad) else .bad
  | _, _ => .bad
theorem atI_rp {mg : Gm} {G : Vw} {ds : List D} {vs : List V} {i : Int} {d : D} (r : RpL mg G ds vs) (h : atI ds i = some d) : ∃ v, atI vs i = some v ∧ Rp mg G d v := by
  unfold atI at h ⊢
  rw [r.length] at h
  cases q : ixN vs.length i with
  | none => rw [q] at h; cases h
  | some j => rw [q] at h; exact r.get h
theorem rpl_ints {mg : Gm} {G : Vw} : ∀ ns : List Int, RpL mg G (ns.map D.int) (ns.map V.int)
  | [] => .nil
  | n :: ns => .cons (.int n) (rpl_ints ns)
theorem pe_or {X : Cx} {e : Expr} {t u : TE} (h1 : PE X e t) (h2 : PE X e u) : PE X e (fun σ H Q => t σ H Q ∨ u σ H Q) :=
  ⟨fun pins s σ H Q I h => h.elim (h1.run pins s σ H Q I) (h2.run pins s σ H Q I)⟩
def isDic : D → Bool
  | .dic _ _ => true
  | _ => false
section
variable {X : Cx} {W : WX} {fl fla flb flc : Bool} {e a b c : Expr} {es : List Expr} {pos : Pos} {φ φa φb φc : Env → Res D}
theorem seq_read {M : Addr → Bool} {H : Hp} {σ : L2.St} {Q : VK} {d k : D} {v w : V} (nd : isDic d = false) (rd : Rp (gm X) (vis fl M (vw H)) d v) (rk : Rp (gm X) (vis flb M (vw H)) k w) (h : PostE X W fl M σ H Q (getD d k)) : rIx X.K v w H Q := by
  cases rd <;> first | (cases nd; done) | skip
  all_goals (cases rk <;> first | exact h.elim | skip)
  case str.int z i =>
    obtain ⟨hs, h⟩ := PostE.ite h
    cases q : atI z.cps.toList i with
    | none => rw [q] at h; exact h.elim
    | some c => rw [q] at h; exact .inr (.inr ⟨z, i, c, rfl, rfl, hs, q, h _ H (Ext.refl H) (.str _)⟩)
  case scr.int a ns ha i =>
    have h' : PostE X W fl M σ H Q (seqGet (ns.map .int) i) := h
    unfold seqGet at h'
    cases q : atI (ns.map D.int) i with
    | none => rw [q] at h'; exact h'.elim
    | some d =>
      rw [q] at h'
      obtain ⟨v, q1, r1⟩ := atI_rp (mg := gm X) (G := vis fl M (vw H)) (rpl_ints ns) q
      exact .inl ⟨a, _, i, v, rfl, rfl, (ha.mono (vis_le fl M _)).sq, q1, h' _ H (Ext.refl H) r1⟩
  case tup.int a xs ds ha ra i =>
    have h' : PostE X W fl M σ H Q (seqGet ds i) := h
    unfold seqGet at h'
    cases q : atI ds i with
    | none => rw [q] at h'; exact h'.elim
    | some d =>
      rw [q] at h'
      obtain ⟨v, q1, r1⟩ := atI_rp ra q
      exact .inr (.inl ⟨a, xs, i, v, rfl, rfl, .inl (.inl (vw_tup (vis_get ha))), q1, h' _ H (Ext.refl H) r1⟩)
  case lst.int a xs ds ha ra i =>
    have h' : PostE X W fl M σ H Q (seqGet ds i) := h
    unfold seqGet at h'
    cases q : atI ds i with
    | none => rw [q] at h'; exact h'.elim
    | some d =>
      rw [q] at h'
      obtain ⟨v, q1, r1⟩ := atI_rp ra q
      exact .inl ⟨a, xs, i, v, rfl, rfl, .inl (vw_lst (vis_get ha)), q1, h' _ H (Ext.refl H) r1⟩
theorem dic_read {M : Addr → Bool} {H : Hp} {σ : L2.St} {Q : VK} {t : Nat} {es : List (D × D)} {k : D} {v w : V} (rd : Rp (gm X) (vis fl M (vw H)) (.dic t es) v) (rk : Rp (gm X) (vis flb M (vw H)) k w) (h : PostE X W fl M σ H Q (getD (.dic t es) k)) :
    ∃ a x, v = .ref a ∧ DGet H a w (some x) ∧ Q x H := by
  have e1 : getD (.dic t es) k = if keyFit t k = true then (match lookD es k with | some d => .ok d | none => .bad) else .bad := by cases k <;> rfl
  rw [e1] at h
  obtain ⟨hs, h⟩ := PostE.ite h
  have hr : ∃ a, v = .ref a := by cases rd <;> exact ⟨_, rfl⟩
  obtain ⟨a, rfl⟩ := hr
  have hl := dget_of (vis_le fl M (vw H)) rd (rk.mono (vis_le flb M _)) hs
  cases q : lookD es k with
  | none => rw [q] at h; exact h.elim
  | some d =>
    rw [q] at h hl
    obtain ⟨x, g, r⟩ := hl
    exact ⟨a, x, rfl, g, h x H (Ext.refl H) r⟩
theorem ve_ix (hu : X.A.units + 1 < cLine) (ha : VE X W fl a φa) (hb : VE X W flb b φb) (hs : PlainIx b := by exact fun _ _ => rfl) (hs2 : NoSl b := by exact fun _ _ => rfl) : VE X W fl (.Subscript a b pos) (op2 getD φa φb) := by
  obtain ⟨ta, pa, ra⟩ := ha
  obtain ⟨tb, pb, rb⟩ := hb
  refine ⟨_, pe_or (pe_ix ix_seq pa pb hs) (pe_dget hu pa pb hs2), fun H0 M0 M H σ env Q g h => ?_⟩
  by_cases hd : ∃ t es, φa env = .ok (.dic t es)
  · obtain ⟨t, es, hd⟩ := hd
    refine .inr ?_
    have h' : PostE X W fl M σ H Q ((Res.ok (.dic t es)).bind fun d => (φb env).bind fun e => getD d e) := by
      have : op2 getD φa φb env = (φa env).bind fun d => (φb env).bind fun e => getD d e := rfl
      rw [this, hd] at h; exact h
    refine ra H0 M0 M H σ env _ g ?_
    rw [hd]
    intro v H1 e1 r1
    refine rb H0 M0 M H1 σ env _ (g.mono e1) (PostE.seq (PostE.mono h' e1) fun d2 v2 H2 e2 r2 h2 => ?_)
    exact dic_read (r1.mono (vis_mono e2.v)) r2 h2
  · refine .inl ?_
    have h0 : PostE X W fl M σ H Q ((φa env).bind fun d => (φb env).bind fun e => getD d e) := h
    refine ra H0 M0 M H σ env _ g ?_
    cases q : φa env with
    | ok d =>
      rw [q] at h0
      intro v H1 e1 r1
      refine rb H0 M0 M H1 σ env _ (g.mono e1) (PostE.seq (PostE.mono h0 e1) fun d2 v2 H2 e2 r2 h2 => ?_)
      refine seq_read ?_ (r1.mono (vis_mono e2.v)) r2 h2
      cases d <;> first | rfl | exact absurd ⟨_, _, q⟩ hd
    | exc c fs => rw [q] at h0; exact h0
    | bad => rw [q] at h0; exact h0
def cutD (xs : List D) (lo hi : Option Int) : List D := (xs.drop (HT.sIx xs.length 0 lo)).take (HT.sIx xs.length xs.length hi - HT.sIx xs.length 0 lo)
def sliceD : D → Option Int → Option Int → Res D
  | .str z, lo, hi => if z.length ≤ sizeLine then .ok (.str (cutS z lo hi)) else .bad
  | .tup xs, lo, hi => .ok (.tup (cutD xs lo hi))
  | .lst xs, lo, hi => .ok (.lst (cutD xs lo hi))
  | _, _, _ => .bad
def VO (X : Cx) (W : WX) (e : Option Expr) (φ : Env → Res (Option Int)) : Prop :=
  ∃ t : TO, PO X e t ∧ ∀ (H0 : Hp) (M0 M : Addr → Bool) (H : Hp) (σ : L2.St) (env : Env) (Q : Option Int → Hp → Prop), Good (gm X) H0 M0 M H σ env → PostT X W M σ H Q (φ env) → t σ H Q
def noO (_ : Env) : Res (Option Int) := .ok none
def toI : D → Res (Option Int)
  | .int i => .ok (some i)
  | _ => .bad
def someO (φ : Env → Res D) (env : Env) : Res (Option Int) := (φ env).bind toI
theorem vo_none : VO X W none noO := ⟨_, po_none, fun H0 M0 M H σ env Q g h => h H (Ext.refl H)⟩
theorem vo_some (h : VE X W fl e φ) : VO X W (some e) (someO φ) := by
  obtain ⟨t, p, r⟩ := h
  refine ⟨_, po_some p, fun H0 M0 M H σ env Q g h => ?_⟩
  refine r H0 M0 M H σ env _ g (PostT.seq h fun d v H1 e1 r1 h1 => ?_)
  cases d with
  | int i => cases r1; exact ⟨i, rfl, h1 H1 (Ext.refl _)⟩
  | _ => exact h1.elim
def slE (φ : Env → Res D) (ml mh : Env → Res (Option Int)) (env : Env) : Res D := (φ env).bind fun d => (ml env).bind fun l => (mh env).bind fun u => sliceD d l u
theorem cutD_rp {mg : Gm} {G : Vw} {ds : List D} {vs : List V} (r : RpL mg G ds vs) (lo hi : Option Int) : RpL mg G (cutD ds lo hi) (cutV vs lo hi) := by
  unfold cutD cutV
  rw [r.length]
  exact (r.drop _).take _
theorem cutV_whole {xs : List V} {lo hi : Option Int} (h : HT.sIx xs.length 0 lo = 0 ∧ HT.sIx xs.length xs.length hi = xs.length) : cutV xs lo hi = xs := by
  unfold cutV
  rw [h.1, h.2]
  simp
theorem ve_sl {lo hi : Option Expr} {p2 : Pos} {ml mh : Env → Res (Option Int)} (he : VE X W fl e φ) (hl : VO X W lo ml) (hh : VO X W hi mh) : VE X W fl (.Subscript e (.Slice lo hi none p2) pos) (slE φ ml mh) := by
  obtain ⟨t, p, r⟩ := he
  obtain ⟨tl, pl, rl⟩ := hl
  obtain ⟨th, ph, rh⟩ := hh
  refine ⟨_, pe_slice (sl_str.or (sl_tupA.or sl_list)) p pl ph, fun H0 M0 M H σ env Q g h => ?_⟩
  refine r H0 M0 M H σ env _ g (PostE.seq h fun d v H1 e1 r1 h1 => ?_)
  refine rl H0 M0 M H1 σ env _ (g.mono e1) (PostE.tst h1 fun l H2 e2 h2 => ?_)
  refine rh H0 M0 M H2 σ env _ ((g.mono e1).mono e2) (PostE.tst h2 fun u H3 e3 h3 => ?_)
  have m := ((g.ok.mono e1).mono e2).mono e3
  have r3 := r1.mono (vis_mono (e2.trans e3).v)
  cases r3 <;> first | exact h3.elim | skip
  case str z =>
    obtain ⟨hs, h3⟩ := PostE.ite h3
    exact .inl ⟨z, rfl, hs, h3 _ H3 (Ext.refl _) (.str _)⟩
  case tup a xs ds ha ra =>
    refine .inr (.inl ⟨a, xs, rfl, .inl (.inl (vw_tup (vis_get ha))), fun hw => ?_, fun _ q hq => ?_⟩)
    · refine h3 _ H3 (Ext.refl _) (.tup ha ?_)
      have := cutD_rp ra l u
      rw [cutV_whole hw] at this
      exact this
    · exact h3 _ _ (Ext.new hq) (rp_newT m hq (cutD_rp ra l u))
  case lst a xs ds ha ra =>
    exact .inr (.inr ⟨a, xs, rfl, .inl (vw_lst (vis_get ha)), fun q hq => h3 _ _ (Ext.new hq) (rp_newL m hq (cutD_rp ra l u))⟩)
end
end VL

set_option maxRecDepth 100000
set_option maxHeartbeats 2000000
namespace VL
open PySem L2

def nilA (_ : Env) : Res (List D) := .ok []
def consA (φ : Env → Res D) (φs : Env → Res (List D)) (env : Env) : Res (List D) := (φ env).bind fun d => (φs env).bind fun ds => .ok (d :: ds)
def tupD (ds : List D) : Res D := if ds.length ≤ sizeLine then .ok (.tup ds) else .bad
def lstD (ds : List D) : Res D := if ds.length ≤ sizeLine then .ok (.lst ds) else .bad
def aE (f : List D → Res D) (φs : Env → Res (List D)) (env : Env) : Res D := (φs env).bind f
section
variable {X : Cx} {W : WX} {fl fla flb flc : Bool} {e a b c : Expr} {es : List Expr} {pos : Pos} {φ φa φb φc : Env → Res D} {φs : Env → Res (List D)}
theorem va_nil : VA X W fl [] nilA := ⟨_, pa_nil, fun H0 M0 M H σ env Q g h => h [] H (Ext.refl H) .nil⟩
theorem va_cons (ha : VE X W fl e φ) (hr : VA X W fl es φs) (hs : starEach (e :: es) X.env = (false, eval e X.env) :: starEach es X.env := by rfl) : VA X W fl (e :: es) (consA φ φs) := by
  obtain ⟨t, p, r⟩ := ha
  obtain ⟨t', p', r'⟩ := hr
  refine ⟨_, pa_cons p p' hs, fun H0 M0 M H σ env Q g h => ?_⟩
  refine r H0 M0 M H σ env _ g (PostA.head h fun d v H1 e1 r1 h1 => ?_)
  refine r' H0 M0 M H1 σ env _ (g.mono e1) (PostA.tail h1 fun ds vs H2 e2 r2 h2 => ?_)
  exact h2 _ H2 (Ext.refl _) (.cons (r1.mono (vis_mono e2.v)) r2)
theorem ve_tup {k} (h : VA X W fl es φs) : VE X W fl (.Tuple es k pos) (aE tupD φs) := by
  obtain ⟨t, p, r⟩ := h
  refine ⟨_, pe_tup p, fun H0 M0 M H σ env Q g h => ?_⟩
  refine r H0 M0 M H σ env _ g (PostE.args h fun ds vs H1 e1 r1 h1 => ?_)
  obtain ⟨hs, h1⟩ := PostE.ite h1
  rw [r1.length] at hs
  exact ⟨hs, fun q hq => h1 _ _ (Ext.new hq) (rp_newT (g.ok.mono e1) hq r1)⟩
theorem ve_lst (h : VA X W fl es φs) : VE X W fl (.List es pos) (aE lstD φs) := by
  obtain ⟨t, p, r⟩ := h
  refine ⟨_, pe_lst p, fun H0 M0 M H σ env Q g h => ?_⟩
  refine r H0 M0 M H σ env _ g (PostE.args h fun ds vs H1 e1 r1 h1 => ?_)
  obtain ⟨hs, h1⟩ := PostE.ite h1
  rw [r1.length] at hs
  exact ⟨hs, fun q hq => h1 _ _ (Ext.new hq) (rp_newL (g.ok.mono e1) hq r1)⟩

def CallF (X : Cx) (W : WX) (fla fl : Bool) (r : List V → Hp → VK → Prop) (f : List D → Res D) : Prop :=
  ∀ (M : Addr → Bool) (H : Hp) (σ : L2.St) (Q : VK) (ds : List D) (vs : List V), MOk M H → RpL (gm X) (vis fla M (vw H)) ds vs → PostE X W fl M σ H Q (f ds) → r vs H Q
theorem ve_bi {x : Str} {id : String} {r : List V → Hp → VK → Prop} {f : List D → Res D} {p : Pos} (hc : CallR X (.builtin id) r) (hf : CallF X W fla fl r f) (hm : X.mg x = none) (hv : bootBuiltins x = some (.builtin id)) (ha : VA X W fla (e :: es) φs)
    (hg : Gl X x := by rfl) (hn : x ≠ "__name__" := by decide) (hdb : (x == ("__debug__" : Str)) = false := by decide) (he : starEach (e :: es) X.env = (false, eval e X.env) :: starEach es X.env := by rfl) (hpl : (backTo pos (starEach es X.env)).any (·.1) = false := by rfl) :
    VE X W fl (.Call (.Name x p) (e :: es) [] pos) (aE f φs) := by
  obtain ⟨t, pt, r'⟩ := ha
  refine ⟨_, pe_callB hc hg hm hv pt hn hdb he hpl, fun H0 M0 M H σ env Q g h => ?_⟩
  exact r' H0 M0 M H σ env _ g (PostE.args h fun ds vs H1 e1 r1 h1 => hf M H1 σ Q ds vs (g.ok.mono e1) r1 h1)
theorem ve_ty {x : Str} {T : String} {r : List V → Hp → VK → Prop} {f : List D → Res D} {p : Pos} (hc : CallR X (.type T) r) (hf : CallF X W fla fl r f) (hm : X.mg x = none) (hv : bootBuiltins x = some (.type T)) (ha : VA X W fla (e :: es) φs)
    (hg : Gl X x := by rfl) (hn : x ≠ "__name__" := by decide) (hdb : (x == ("__debug__" : Str)) = false := by decide) (he : starEach (e :: es) X.env = (false, eval e X.env) :: starEach es X.env := by rfl) (hpl : (backTo pos (starEach es X.env)).any (·.1) = false := by rfl) :
    VE X W fl (.Call (.Name x p) (e :: es) [] pos) (aE f φs) := by
  obtain ⟨t, pt, r'⟩ := ha
  refine ⟨_, pe_callTy hc hg hm hv pt hn hdb he hpl, fun H0 M0 M H σ env Q g h => ?_⟩
  exact r' H0 M0 M H σ env _ g (PostE.args h fun ds vs H1 e1 r1 h1 => hf M H1 σ Q ds vs (g.ok.mono e1) r1 h1)
def lenF : List D → Res D
  | [.str s] => if s.length ≤ sizeLine then .ok (.int s.length) else .bad
  | [.lst ds] => .ok (.int ds.length)
  | [.scr ns] => .ok (.int ns.length)
  | [.tup ds] => .ok (.int ds.length)
  | _ => .bad
theorem cf_len : CallF X W fla fl (fun xs H Q => ∃ x n, xs = [x] ∧ LenV X.K x H n ∧ Q (.int n) H) lenF := by
  intro M H σ Q ds vs m r h
  cases r with
  | nil => exact h.elim
  | cons r t =>
    cases t with
    | cons _ _ => cases r <;> exact h.elim
    | nil =>
      cases r <;> first | exact h.elim | skip
      case str s =>
        obtain ⟨hs, h⟩ := PostE.ite h
        exact ⟨_, s.length, rfl, ⟨hs, rfl⟩, h _ H (Ext.refl H) (.int _)⟩
      case scr a ns ha =>
        refine ⟨_, (ns.map V.int).length, rfl, .inl ⟨_, (ha.mono (vis_le fla M _)).sq, rfl⟩, ?_⟩
        have h' := h (.int ns.length) H (Ext.refl H) (.int _)
        rw [List.length_map]
        exact h'
      case tup a xs ds ha ra =>
        refine ⟨_, xs.length, rfl, .inr ⟨xs, .inl (.inl (vw_tup (vis_get ha))), rfl⟩, ?_⟩
        have h' := h (.int ds.length) H (Ext.refl H) (.int _)
        rw [ra.length] at h'
        exact h'
      case lst a xs ds ha ra =>
        refine ⟨_, xs.length, rfl, .inl ⟨xs, .inl (vw_lst (vis_get ha)), rfl⟩, ?_⟩
        have h' := h (.int ds.length) H (Ext.refl H) (.int _)
        rw [ra.length] at h'
        exact h'
def intF : List D → Res D
  | [.int i] => .ok (.int i)
  | [.bl b] => .ok (.int (if b = true then 1 else 0))
  | _ => .bad
theorem cf_int : CallF X W fla fl (fun xs H Q => (∃ i, xs = [.int i] ∧ Q (.int i) H) ∨ ∃ k, xs = [.bl k] ∧ Q (.int (if k then 1 else 0)) H) intF := by
  intro M H σ Q ds vs m r h
  cases r with
  | nil => exact h.elim
  | cons r t =>
    cases t with
    | cons _ _ => cases r <;> exact h.elim
    | nil =>
      cases r <;> first | exact h.elim | skip
      · exact .inr ⟨_, rfl, h _ H (Ext.refl H) (.int _)⟩
      · exact .inl ⟨_, rfl, h _ H (Ext.refl H) (.int _)⟩
def listF : List D → Res D
  | [.lst ds] => .ok (.lst ds)
  | [.tup ds] => .ok (.lst ds)
  | _ => .bad
def tyName : D → Option String
  | .non => some "NoneType"
  | .bl _ => some "bool"
  | .int _ => some "int"
  | .str _ => some "str"
  | .tup _ => some "tuple"
  | .lst _ => some "list"
  | .dic 0 _ => some "dict"
  | _ => none
def isT (T : String) (d : D) : Res D := match tyName d with
  | some S => (match kitB S T with | some b => .ok (.bl b) | none => .bad)
  | none => .bad
theorem ty_of {H : Hp} {d : D} {v : V} {S : String} (r : Rp (gm X) (vw H) d v) (h : tyName d = some S) : TyX X.K H v (.type S) := by
  cases r <;> first | (cases h; done) | skip
  case non => cases h; exact .base .non
  case bl b => cases h; exact .base (.bl b)
  case int b => cases h; exact .base (.int b)
  case str b => cases h; exact .base (.str b)
  case tup a xs ds ha ra => cases h; exact .base (.tup (vw_tup ha))
  case lst a xs ds ha ra =>
    cases h
    rcases vw_lst ha with q | ⟨o, q⟩
    · exact .base (.lst q)
    · exact .base (.frz q)
  case dicK a kvs es ha e ra =>
    cases h
    rcases vw_dK ha with q | ⟨o, q⟩
    · exact .base (.dK q)
    · exact .fDict q
def isTE (T : String) (φ : Env → Res D) (env : Env) : Res D := (φ env).bind (isT T)
theorem ve_isT {T : String} {x : Str} {xi p : Pos} (h : VE X W fla e φ) (hmi : X.mg "isinstance" = none) (hm : X.mg x = none) (hv : bootBuiltins x = some (.type T)) (hgi : Gl X "isinstance" := by rfl) (hg : Gl X x := by rfl)
    (hn : x ≠ "__name__" := by decide) (hd : (x == ("__debug__" : Str)) = false := by decide) (hs : starEach (e :: [.Name x p]) X.env = (false, eval e X.env) :: starEach [.Name x p] X.env := by rfl)
    (hs2 : starEach ((.Name x p) :: []) X.env = (false, eval (.Name x p) X.env) :: starEach [] X.env := by rfl) (hpl : (backTo pos (starEach [.Name x p] X.env)).any (·.1) = false := by rfl) :
    VE X W fl (.Call (.Name "isinstance" xi) [e, .Name x p] [] pos) (isTE T φ) := by
  obtain ⟨t, pt, r⟩ := h
  refine ⟨_, pe_callB call_isi hgi hmi (by decide +kernel) (pa_cons pt (pa_cons (pe_bltn (v := .ty T) hg hm hv rfl hn hd) pa_nil hs2) hs) (by decide) (by decide) hs hpl, fun H0 M0 M H σ env Q g h => ?_⟩
  refine r H0 M0 M H σ env _ g (PostE.seq h fun d v H1 e1 r1 h1 => ?_)
  unfold isT at h1
  cases q : tyName d with
  | none => rw [q] at h1; exact h1.elim
  | some S =>
    rw [q] at h1
    cases z : kitB S T with
    | none =>
      have h2 : PostE X W fl M σ H1 Q (match kitB S T with | some b => .ok (.bl b) | none => .bad) := h1
      rw [z] at h2; exact h2.elim
    | some b =>
      have h2 : PostE X W fl M σ H1 Q (match kitB S T with | some b => .ok (.bl b) | none => .bad) := h1
      rw [z] at h2
      exact ⟨v, .ty T, .type S, .type T, b, rfl, .ty T, ty_of (r1.mono (vis_le fla M _)) q, kit_ty z, h2 _ H1 (Ext.refl _) (.bl b)⟩
end

def PostF (mg : Gm) (M : Addr → Bool) (H : Hp) (Q : VK) (E : XK) : Res D → Prop
  | .ok d => ∀ v H', Ext H H' → Rp mg (Sh M (vw H')) d v → Q v H'
  | .exc c fs => ∀ cls dd H', Ext H H' → RpX mg (Sh M (vw H')) c fs cls dd → E cls dd H'
  | .bad => False
def spV (mg : Gm) (n : Nat) (F : List D → Res D) : Sp := fun vs H Q E => vs.length = n ∧ ∃ (M : Addr → Bool) (ds : List D), MOk M H ∧ RpL mg (Sh M (vw H)) ds vs ∧ PostF mg M H Q E (F ds)
def immuts (fs : List (Str × D)) : Bool := fs.all fun p => immut p.2
def guardX : Res D → Res D
  | .exc c fs => if immuts fs = true then .exc c fs else .bad
  | r => r
section
variable {X : Cx} {W : WX} {fl fla flb flc : Bool} {e a b c : Expr} {es : List Expr} {pos : Pos} {φ φa φb φc : Env → Res D} {φs : Env → Res (List D)}
variable {k n : Nat} {f : Addr} {fd : FuncData} {ps : List Str} {F : List D → Res D} {x : Str} {p : Pos}
theorem ve_call (tk : L2N.Takes X W) (hF : FnOk X.prog X.w X.K X.mg X.base (L2N.CX X.prog X.w) k f fd ps (spV (gm X) n F)) (hr : Room k X.A) (hm : X.mg x = some (.ref f)) (hk : PySem.W.keepIn X.K (.ref f) = true) (hb : Binds X.K fd ps [])
    (ha : VA X W true (e :: es) φs) (hn : (e :: es).length = n) (hl : ∀ env ds, φs env = .ok ds → ds.length = n) (hg : Gl X x := by rfl) (hdb : (x == ("__debug__" : Str)) = false := by decide)
    (he : starEach (e :: es) X.env = (false, eval e X.env) :: starEach es X.env := by rfl) (hpl : (backTo pos (starEach es X.env)).any (·.1) = false := by rfl) : VE X W fl (.Call (.Name x p) (e :: es) [] pos) (aE F φs) := by
  obtain ⟨t, pt, r⟩ := ha
  refine ⟨_, pe_callS hF hr hg hm hk hb (fun σ => L2N.passAt tk σ) pt hdb he hpl, fun H0 M0 M H σ env Q g h => ?_⟩
  have h0 : PostE X W fl M σ H Q ((φs env).bind F) := h
  refine r H0 M0 M H σ env _ g ?_
  cases q : φs env with
  | ok ds =>
    rw [q] at h0
    intro vs H1 e1 r1
    refine ⟨(r1.length.symm).trans (hl env ds q), M, ds, g.ok.mono e1, r1, ?_⟩
    have h1 : PostE X W fl M σ H1 Q (F ds) := PostE.mono h0 e1
    cases z : F ds with
    | ok d => rw [z] at h1; exact fun v H2 e2 r2 => h1 v H2 e2 (r2.mono (Sh_vis fl M _))
    | exc c fs => rw [z] at h1; exact fun cls dd H2 e2 r2 => h1 cls dd H2 e2 r2
    | bad => rw [z] at h1; exact h1
  | exc c fs => rw [q] at h0; exact h0
  | bad => rw [q] at h0; exact h0
end
end VL

set_option maxRecDepth 100000
set_option maxHeartbeats 2000000
namespace VL
open PySem L2

inductive SRes where
  | nx (env : Env) | rt (d : D) | bk (env : Env) | ct (env : Env) | xc (c : Str) (fs : List (Str × D)) (env : Env) | bad | ro (d : D)
def addM (M : Addr → Bool) (p : Addr) : Addr → Bool := fun a => M a || decide (a = p)
def PostS (X : Cx) (W : WX) (H0 : Hp) (M0 M : Addr → Bool) (H : Hp) (D : Ends) : SRes → Prop
  | .nx env => ∀ M' H' σ', Good (gm X) H0 M0 M' H' σ' env → VEx (Sh M (vw H)) (Sh M' (vw H')) → D.nx σ' H'
  | .bk env => ∀ M' H' σ', Good (gm X) H0 M0 M' H' σ' env → VEx (Sh M (vw H)) (Sh M' (vw H')) → D.bk σ' H'
  | .ct env => ∀ M' H' σ', Good (gm X) H0 M0 M' H' σ' env → VEx (Sh M (vw H)) (Sh M' (vw H')) → D.ct σ' H'
  | .rt d => ∀ v H', Ext H0 H' → Rp (gm X) (Sh M0 (vw H')) d v → D.rt v H'
  | .xc c fs env => ∀ M' H' σ' cls dd, Good (gm X) H0 M0 M' H' σ' env → VEx (Sh M (vw H)) (Sh M' (vw H')) → RpX (gm X) (Sh M' (vw H')) c fs cls dd → W cls dd σ' H'
  | .bad => False
  | .ro d => ∀ p H', Ext H0 H' → H0 p = none → OwOk (gm X) (addM M0 p) H' p d → D.rt (.ref p) H'
def VS (X : Cx) (W : WX) (st : Stmt) (ψ : Env → SRes) : Prop :=
  ∃ t : TS, PS X st t ∧ ∀ (H0 : Hp) (M0 M : Addr → Bool) (H : Hp) (σ : L2.St) (env : Env) (D : Ends), Good (gm X) H0 M0 M H σ env → PostS X W H0 M0 M H D (ψ env) → t D σ H
def VB (X : Cx) (W : WX) (st : List Stmt) (ψ : Env → SRes) : Prop :=
  ∃ t : TS, PSs X st t ∧ ∀ (H0 : Hp) (M0 M : Addr → Bool) (H : Hp) (σ : L2.St) (env : Env) (D : Ends), Good (gm X) H0 M0 M H σ env → PostS X W H0 M0 M H D (ψ env) → t D σ H
def VG (X : Cx) (tg : Expr) (γ : D → Env → Option Env) : Prop :=
  ∃ g : TG, PG X tg g ∧ ∀ (H0 : Hp) (M0 M : Addr → Bool) (H : Hp) (σ : L2.St) (env env' : Env) (d : D) (v : V) (Q : L2.St → Hp → Prop), Good (gm X) H0 M0 M H σ env → Rp (gm X) (Sh M (vw H)) d v → γ d env = some env' → (∀ σ', Good (gm X) H0 M0 M H σ' env' → Q σ' H) → g v σ H Q
theorem addM_self {M : Addr → Bool} {p : Addr} : addM M p p = true := by unfold addM; rw [decide_eq_true rfl, Bool.or_true]
theorem addM_ne {M : Addr → Bool} {p a : Addr} (h : a ≠ p) : addM M p a = M a := by unfold addM; rw [decide_eq_false h, Bool.or_false]
section
variable {mg : Gm} {H0 H H' : Hp} {M0 M : Addr → Bool} {σ : L2.St} {env : Env}
theorem get_set_ne {α : Type} {l : List α} {i j : Nat} {x : α} (h : j ≠ i) : (l.set i x)[j]? = l[j]? := List.getElem?_set_ne (Ne.symm h)
theorem isOw_sh {i : Nat} {s : Sl} (hs : isOw (some s) = false) : isOw (env.set i s)[i]? = false := by
  by_cases h : i < env.length
  · rw [List.getElem?_set_self h]; exact hs
  · rw [List.getElem?_eq_none (by rw [List.length_set]; omega)]; rfl
theorem Good.set (g : Good mg H0 M0 M H σ env) {i : Nat} {d : D} {v : V} (r : Rp mg (Sh M (vw H)) d v) : Good mg H0 M0 M H (σ.set i (some v)) (env.set i (.sh d)) where
  len := by rw [List.length_set, List.length_set]; exact g.len
  ok := g.ok
  sub := g.sub
  new := g.new
  ok0 := g.ok0
  ex := g.ex
  sl := fun j s h => by
    by_cases e : j = i
    · subst e
      have hj : j < env.length := by
        have := (List.getElem?_eq_some_iff.mp h).1
        rw [List.length_set] at this; exact this
      rw [List.getElem?_set_self hj] at h
      cases h
      exact ⟨v, List.getElem?_set_self (by rw [g.len]; exact hj), r⟩
    · rw [get_set_ne e] at h ⊢
      exact g.sl j s h
  inj := fun j k p hne h1 h2 h3 => by
    by_cases e1 : j = i
    · subst e1; rw [isOw_sh rfl] at h1; cases h1
    · by_cases e2 : k = i
      · subst e2; rw [isOw_sh rfl] at h2; cases h2
      · rw [get_set_ne e1] at h1 h3
        rw [get_set_ne e2] at h2 ⊢
        exact g.inj j k p hne h1 h2 h3
theorem Good.h0 (g : Good mg H0 M0 M H σ env) {p : Addr} (hp : H p = none) : H0 p = none := g.ex.fresh hp
theorem Good.nm (g : Good mg H0 M0 M H σ env) {p : Addr} (hp : H p = none) : M p = false ∧ M0 p = false := by
  constructor
  · cases q : M p with
    | false => rfl
    | true => obtain ⟨o, e⟩ := g.ok.dom p q; rw [hp] at e; cases e
  · cases q : M0 p with
    | false => rfl
    | true => obtain ⟨o, e⟩ := g.ok0.dom p q; rw [g.h0 hp] at e; cases e
theorem OwOk.obj {p : Addr} : ∀ {d : D}, OwOk mg M H p d → ∃ o, H p = some o ∧ (∀ xs, o ≠ .tup xs) ∧ (∀ fs, o ≠ .xd fs)
  | .lst ds, ⟨xs, h, _⟩ => ⟨_, h, (fun _ z => nomatch z), (fun _ z => nomatch z)⟩
  | .dic 0 es, ⟨kvs, h, _⟩ => ⟨_, h, (fun _ z => nomatch z), (fun _ z => nomatch z)⟩
  | .dic 1 es, ⟨kvs, h, _⟩ => ⟨_, h, (fun _ z => nomatch z), (fun _ z => nomatch z)⟩
  | .dic 2 es, ⟨kvs, h, _⟩ => ⟨_, h, (fun _ z => nomatch z), (fun _ z => nomatch z)⟩
  | .dic (_ + 3) _, h => h.elim
  | .ins c gs, ⟨C, dx, fs, m, h, _⟩ => ⟨_, h, (fun _ z => nomatch z), (fun _ z => nomatch z)⟩
  | .non, h => h.elim
  | .bl _, h => h.elim
  | .int _, h => h.elim
  | .str _, h => h.elim
  | .tup _, h => h.elim
  | .scr _, h => h.elim
  | .exn _ _, h => h.elim
  | .sel x c gs, ⟨_, C, dx, fs, m, h, _⟩ => ⟨_, h, (fun _ z => nomatch z), (fun _ z => nomatch z)⟩
theorem sh_add (e : Ext H H') {p : Addr} (hp : H p = none) : VEx (Sh M (vw H)) (Sh (addM M p) (vw H')) := fun a u h => by
  obtain ⟨h1, h2⟩ := Sh_some h
  have hne : a ≠ p := fun q => by rw [q, vw_none.mpr hp] at h2; cases h2
  rw [Sh_of (by rw [addM_ne hne]; exact h1)]
  exact e.v a u h2
theorem OwOk.imp {M' : Addr → Bool} {p : Addr} (v : VEx (Sh M (vw H)) (Sh M' (vw H'))) (hp : ∀ o, H p = some o → H' p = some o) : ∀ {d : D}, OwOk mg M H p d → OwOk mg M' H' p d
  | .lst ds, ⟨xs, h, r⟩ => ⟨xs, hp _ h, r.mono v⟩
  | .dic 0 es, ⟨kvs, h, k, r⟩ => ⟨kvs, hp _ h, k, r.mono v⟩
  | .dic 1 es, ⟨kvs, h, k, r⟩ => ⟨kvs, hp _ h, k, r.mono v⟩
  | .dic 2 es, ⟨kvs, h, n, k, r⟩ => ⟨kvs, hp _ h, fun x hx => (n x hx).mono v, k, r.mono v⟩
  | .dic (_ + 3) _, h => h.elim
  | .ins c gs, ⟨C, dx, fs, m, h, k, r⟩ => ⟨C, dx, fs, m, hp _ h, k, r.mono v⟩
  | .non, h => h.elim
  | .bl _, h => h.elim
  | .int _, h => h.elim
  | .str _, h => h.elim
  | .tup _, h => h.elim
  | .scr _, h => h.elim
  | .exn _ _, h => h.elim
  | .sel x c gs, ⟨q, C, dx, fs, m, h, k, r⟩ => ⟨q, C, dx, fs, m, hp _ h, k, r.mono v⟩
theorem SlotOk.imp {M' : Addr → Bool} {v : Option (Option V)} (x : VEx (Sh M (vw H)) (Sh M' (vw H'))) (hm : ∀ p, v = some (some (.ref p)) → M p = true → M' p = true ∧ ∀ o, H p = some o → H' p = some o) :
    ∀ {s : Sl}, SlotOk mg M0 M H v s → SlotOk mg M0 M' H' v s
  | .no, _ => trivial
  | .sh d, ⟨y, h, r⟩ => ⟨y, h, r.mono x⟩
  | .ow d, ⟨p, h, m, m0, r⟩ => ⟨p, h, (hm p h m).1, m0, r.imp x (hm p h m).2⟩
theorem Good.own (g : Good mg H0 M0 M H σ env) {i : Nat} {d : D} {p : Addr} (hp : H p = none) (e : Ext H H') (r : OwOk mg (addM M p) H' p d) : Good mg H0 M0 (addM M p) H' (σ.set i (some (.ref p))) (env.set i (.ow d)) where
  len := by rw [List.length_set, List.length_set]; exact g.len
  ok := by
    obtain ⟨o, ho, n1, n2⟩ := r.obj
    have m := g.ok.mono e
    refine ⟨fun a h => ?_, fun a xs h z => ?_, fun a fs h z => ?_⟩
    · by_cases q : a = p
      · subst q; exact ⟨o, ho⟩
      · rw [addM_ne q] at h; exact m.dom a h
    · by_cases q : a = p
      · subst q; rw [ho] at z; cases z; exact n1 xs rfl
      · rw [addM_ne q] at h; exact m.tup a xs h z
    · by_cases q : a = p
      · subst q; rw [ho] at z; cases z; exact n2 fs rfl
      · rw [addM_ne q] at h; exact m.xd a fs h z
  sub := fun a h => by
    by_cases q : a = p
    · subst q; exact addM_self
    · rw [addM_ne q]; exact g.sub a h
  new := fun a h => by
    by_cases q : a = p
    · subst q; exact .inr (g.h0 hp)
    · rw [addM_ne q] at h; exact g.new a h
  ok0 := g.ok0
  ex := g.ex.trans e
  sl := fun j s h => by
    by_cases q : j = i
    · subst q
      have hj : j < env.length := by
        have := (List.getElem?_eq_some_iff.mp h).1
        rw [List.length_set] at this; exact this
      rw [List.getElem?_set_self hj] at h
      cases h
      exact ⟨p, List.getElem?_set_self (by rw [g.len]; exact hj), addM_self, (g.nm hp).2, r⟩
    · rw [get_set_ne q] at h ⊢
      refine (g.sl j s h).imp (sh_add e hp) fun a _ ha => ⟨?_, fun o ho => e a o ho⟩
      have : a ≠ p := fun z => by rw [z, (g.nm hp).1] at ha; cases ha
      rw [addM_ne this]; exact ha
  inj := fun j k a hne h1 h2 h3 h4 => by
    have key : ∀ m, m ≠ i → isOw (env.set i (.ow d))[m]? = true → (σ.set i (some (.ref p)))[m]? ≠ some (some (.ref p)) := fun m hm ho hr => by
      rw [get_set_ne hm] at ho hr
      cases q : env[m]? with
      | none => rw [q] at ho; cases ho
      | some s =>
        rw [q] at ho
        cases s with
        | ow d' =>
          obtain ⟨p', e1, m1, _⟩ := g.sl m _ q
          rw [hr] at e1
          cases e1
          rw [(g.nm hp).1] at m1; cases m1
        | no => cases ho
        | sh _ => cases ho
    have at_i : ∀ m, m = i → (σ.set i (some (.ref p)))[m]? = some (some (.ref a)) → a = p := fun m hm hr => by
      subst hm
      have hj : m < σ.length := by
        have := (List.getElem?_eq_some_iff.mp hr).1
        rw [List.length_set] at this; exact this
      rw [List.getElem?_set_self hj] at hr
      cases hr; rfl
    by_cases e1 : j = i
    · have := at_i j e1 h3
      subst this
      exact key k (fun z => hne (e1.trans z.symm)) h2 h4
    · by_cases e2 : k = i
      · have := at_i k e2 h4
        subst this
        exact key j e1 h1 h3
      · rw [get_set_ne e1] at h1 h3
        rw [get_set_ne e2] at h2 h4
        exact g.inj j k a hne h1 h2 h3 h4
theorem sh_mut {p : Addr} {o : HO} (hm : M p = true) : Sh M (vw (upd H p o)) = Sh M (vw H) := by
  funext a
  by_cases q : M a = true
  · unfold Sh; rw [if_pos q, if_pos q]
  · have hne : a ≠ p := fun z => q (z ▸ hm)
    unfold Sh; rw [if_neg q, if_neg q, vw_upd_ne hne]
theorem Good.mut (g : Good mg H0 M0 M H σ env) {i : Nat} {d0 d : D} {p : Addr} {o : HO} (hi : env[i]? = some (.ow d0)) (hv : σ[i]? = some (some (.ref p))) (r : OwOk mg M (upd H p o) p d) : Good mg H0 M0 M (upd H p o) σ (env.set i (.ow d)) := by
  obtain ⟨p', e1, mp, m0, _⟩ := g.sl i _ hi
  rw [hv] at e1
  obtain rfl : p' = p := by cases e1; rfl
  have hil : i < env.length := (List.getElem?_eq_some_iff.mp hi).1
  have ows : ∀ j, isOw (env.set i (.ow d))[j]? = isOw env[j]? := fun j => by
    by_cases q : j = i
    · subst q; rw [List.getElem?_set_self hil, hi]; rfl
    · rw [get_set_ne q]
  refine ⟨by rw [List.length_set]; exact g.len, ?_, g.sub, g.new, g.ok0, ?_, fun j s h => ?_, fun j k a hne h1 h2 h3 => ?_⟩
  · obtain ⟨o', ho, n1, n2⟩ := r.obj
    refine ⟨fun a h => ?_, fun a xs h z => ?_, fun a fs h z => ?_⟩
    · by_cases q : a = p'
      · subst q; exact ⟨_, upd_same⟩
      · rw [upd_ne q]; exact g.ok.dom a h
    · by_cases q : a = p'
      · subst q; rw [ho] at z; cases z; exact n1 xs rfl
      · rw [upd_ne q] at z; exact g.ok.tup a xs h z
    · by_cases q : a = p'
      · subst q; rw [ho] at z; cases z; exact n2 fs rfl
      · rw [upd_ne q] at z; exact g.ok.xd a fs h z
  · refine g.ex.mut ?_
    rcases g.new p' mp with z | z
    · rw [m0] at z; cases z
    · exact z
  · by_cases q : j = i
    · subst q
      rw [List.getElem?_set_self hil] at h
      cases h
      exact ⟨p', hv, mp, m0, r⟩
    · rw [get_set_ne q] at h
      cases s with
      | no => trivial
      | sh d' =>
        obtain ⟨x, e2, r2⟩ := g.sl j _ h
        exact ⟨x, e2, by rw [sh_mut mp]; exact r2⟩
      | ow d' =>
        obtain ⟨a, e2, m2, m3, r2⟩ := g.sl j _ h
        have hne : a ≠ p' := fun z => by
          subst z
          exact g.inj j i a q (by rw [h]; rfl) (by rw [hi]; rfl) e2 hv
        exact ⟨a, e2, m2, m3, r2.imp (by rw [sh_mut mp]; exact .refl _) fun o' ho' => by rw [upd_ne hne]; exact ho'⟩
  · rw [ows] at h1 h2
    exact g.inj j k a hne h1 h2 h3
def subM (M : Addr → Bool) (p : Addr) : Addr → Bool := fun a => M a && !decide (a = p)
theorem subM_ne {p a : Addr} (h : a ≠ p) : subM M p a = M a := by unfold subM; rw [decide_eq_false h]; exact Bool.and_true _
theorem subM_self {p : Addr} : subM M p p = false := by unfold subM; rw [decide_eq_true rfl]; exact Bool.and_false _
theorem sh_sub {p : Addr} : VEx (Sh M (vw H)) (Sh (subM M p) (vw H)) := fun a u h => by
  obtain ⟨h1, h2⟩ := Sh_some h
  rw [Sh_of]
  · exact h2
  · unfold subM; rw [h1]; rfl
theorem OwOk.give {p : Addr} : ∀ {d : D}, OwOk mg M H p d → Rp mg (Sh (subM M p) (vw H)) d (.ref p)
  | .lst ds, ⟨xs, h, r⟩ => .lst (by rw [Sh_of subM_self]; exact vw_of h trivial) (r.mono sh_sub)
  | .dic 0 es, ⟨kvs, h, k, r⟩ => .dicK (by rw [Sh_of subM_self]; exact vw_of h trivial) k (r.mono sh_sub)
  | .dic 1 es, ⟨kvs, h, k, r⟩ => .dicT (by rw [Sh_of subM_self]; exact vw_of h trivial) k (r.mono sh_sub)
  | .dic 2 es, ⟨kvs, h, n, k, r⟩ => .dicN (by rw [Sh_of subM_self]; exact vw_of h trivial) (fun x hx => (n x hx).mono sh_sub) k (r.mono sh_sub)
  | .dic (_ + 3) _, h => h.elim
  | .ins c gs, ⟨C, dx, fs, m, h, k, r⟩ => .ins m (by rw [Sh_of subM_self]; exact vw_of h trivial) k (r.mono sh_sub)
  | .non, h => h.elim
  | .bl _, h => h.elim
  | .int _, h => h.elim
  | .str _, h => h.elim
  | .tup _, h => h.elim
  | .scr _, h => h.elim
  | .exn _ _, h => h.elim
  | .sel x c gs, ⟨q, C, dx, fs, m, h, k, r⟩ => by
    subst q
    exact .sel m (by rw [Sh_of subM_self]; exact vw_of h trivial) k (r.mono sh_sub)
def give (i : Nat) (env : Env) : Env := match env[i]? with
  | some (.ow d) => env.set i (.sh d)
  | _ => env
theorem Good.give (g : Good mg H0 M0 M H σ env) (i : Nat) : ∃ M', Good mg H0 M0 M' H σ (VL.give i env) ∧ VEx (Sh M (vw H)) (Sh M' (vw H)) := by
  unfold VL.give
  cases q : env[i]? with
  | none => exact ⟨M, g, .refl _⟩
  | some s =>
    cases s with
    | no => exact ⟨M, g, .refl _⟩
    | sh d => exact ⟨M, g, .refl _⟩
    | ow d =>
      obtain ⟨p, hv, mp, m0, r⟩ := g.sl i _ q
      have hil : i < env.length := (List.getElem?_eq_some_iff.mp q).1
      refine ⟨subM M p, ⟨by rw [List.length_set]; exact g.len, ?_, fun a h => ?_, fun a h => ?_, g.ok0, g.ex, fun j s h => ?_, fun j k a hne h1 h2 h3 => ?_⟩, sh_sub⟩
      · have le : ∀ a, subM M p a = true → M a = true := fun a h => (Bool.and_eq_true_iff.mp h).1
        exact ⟨fun a h => g.ok.dom a (le a h), fun a xs h => g.ok.tup a xs (le a h), fun a fs h => g.ok.xd a fs (le a h)⟩
      · have : a ≠ p := fun z => by rw [z, m0] at h; cases h
        rw [subM_ne this]; exact g.sub a h
      · exact g.new a (Bool.and_eq_true_iff.mp h).1
      · by_cases e : j = i
        · subst e
          rw [List.getElem?_set_self hil] at h
          cases h
          exact ⟨_, hv, r.give⟩
        · rw [get_set_ne e] at h
          cases s with
          | no => trivial
          | sh d' =>
            obtain ⟨x, e2, r2⟩ := g.sl j _ h
            exact ⟨x, e2, r2.mono sh_sub⟩
          | ow d' =>
            obtain ⟨a, e2, m2, m3, r2⟩ := g.sl j _ h
            have hne : a ≠ p := fun z => by
              subst z
              exact g.inj j i a e (by rw [h]; rfl) (by rw [q]; rfl) e2 hv
            exact ⟨a, e2, by rw [subM_ne hne]; exact m2, m3, r2.imp sh_sub fun o ho => ho⟩
      · have nt : ∀ m, isOw (env.set i (.sh d))[m]? = true → isOw env[m]? = true := fun m h => by
          by_cases e : m = i
          · subst e; rw [isOw_sh rfl] at h; cases h
          · rw [get_set_ne e] at h; exact h
        exact g.inj j k a hne (nt j h1) (nt k h2) h3
end
theorem PostS.mono {X : Cx} {W : WX} {H0 : Hp} {M0 M M' : Addr → Bool} {H H' : Hp} {D : Ends} {r : SRes} (h : PostS X W H0 M0 M H D r) (e : VEx (Sh M (vw H)) (Sh M' (vw H'))) : PostS X W H0 M0 M' H' D r := by
  cases r with
  | nx env => exact fun M2 H2 σ2 g2 e2 => h M2 H2 σ2 g2 (e.trans e2)
  | bk env => exact fun M2 H2 σ2 g2 e2 => h M2 H2 σ2 g2 (e.trans e2)
  | ct env => exact fun M2 H2 σ2 g2 e2 => h M2 H2 σ2 g2 (e.trans e2)
  | rt d => exact h
  | xc c fs env => exact fun M2 H2 σ2 cls dd g2 e2 r2 => h M2 H2 σ2 cls dd g2 (e.trans e2) r2
  | bad => exact h
  | ro d => exact h
end VL

set_option maxRecDepth 100000
set_option maxHeartbeats 2000000
namespace VL
open PySem L2

def nxS (env : Env) : SRes := .nx env
def seqS (ψ χ : Env → SRes) (env : Env) : SRes := match ψ env with
  | .nx env' => χ env'
  | r => r
def ofE (r : Res D) (env : Env) (k : D → SRes) : SRes := match r with
  | .ok d => k d
  | .exc c fs => .xc c fs env
  | .bad => .bad
def ofA (r : Res (List D)) (env : Env) (k : List D → SRes) : SRes := match r with
  | .ok d => k d
  | .exc c fs => .xc c fs env
  | .bad => .bad
def ofT (r : Res Bool) (env : Env) (k : Bool → SRes) : SRes := match r with
  | .ok d => k d
  | .exc c fs => .xc c fs env
  | .bad => .bad
section
variable {X : Cx} {W : WX} {fl fla flb : Bool} {e : Expr} {st : Stmt} {sts a b : List Stmt} {pos : Pos} {φ : Env → Res D} {τ : Env → Res Bool} {φs : Env → Res (List D)} {ψ χ : Env → SRes}
variable {H0 H : Hp} {M0 M : Addr → Bool} {σ : L2.St} {env : Env} {D : Ends}
theorem PostS.ofE {r : Res VL.D} {k : VL.D → SRes} {Q : VK} (g : Good (gm X) H0 M0 M H σ env) (h : PostS X W H0 M0 M H D (ofE r env k))
    (q : ∀ d v H1, Ext H H1 → Good (gm X) H0 M0 M H1 σ env → Rp (gm X) (vis fl M (vw H1)) d v → PostS X W H0 M0 M H1 D (k d) → Q v H1) : PostE X W fl M σ H Q r := by
  cases r with
  | ok d => exact fun v H1 e1 r1 => q d v H1 e1 (g.mono e1) r1 (PostS.mono h (Sh_mono e1.v))
  | exc c fs => exact fun cls dd H1 e1 r1 => h M H1 σ cls dd (g.mono e1) (Sh_mono e1.v) r1
  | bad => exact h
theorem PostS.ofT {r : Res Bool} {k : Bool → SRes} {Q : Bool → Hp → Prop} (g : Good (gm X) H0 M0 M H σ env) (h : PostS X W H0 M0 M H D (ofT r env k))
    (q : ∀ d H1, Ext H H1 → Good (gm X) H0 M0 M H1 σ env → PostS X W H0 M0 M H1 D (k d) → Q d H1) : PostT X W M σ H Q r := by
  cases r with
  | ok d => exact fun H1 e1 => q d H1 e1 (g.mono e1) (PostS.mono h (Sh_mono e1.v))
  | exc c fs => exact fun cls dd H1 e1 r1 => h M H1 σ cls dd (g.mono e1) (Sh_mono e1.v) r1
  | bad => exact h
theorem PostS.seq (h : PostS X W H0 M0 M H D (seqS ψ χ env)) {N : L2.St → Hp → Prop} (k : ∀ env' M' H' σ', Good (gm X) H0 M0 M' H' σ' env' → PostS X W H0 M0 M' H' D (χ env') → N σ' H') : PostS X W H0 M0 M H { D with nx := N } (ψ env) := by
  unfold seqS at h
  cases q : ψ env with
  | nx env' => rw [q] at h; exact fun M' H' σ' g' e' => k env' M' H' σ' g' (h.mono e')
  | bk env' => rw [q] at h; exact h
  | ct env' => rw [q] at h; exact h
  | rt d => rw [q] at h; exact h
  | xc c fs env' => rw [q] at h; exact h
  | bad => rw [q] at h; exact h
  | ro d => rw [q] at h; exact h
theorem vb_nil : VB X W [] nxS := ⟨_, pss_nil, fun H0 M0 M H σ env D g h => h M H σ g (.refl _)⟩
theorem vb_cons (h1 : VS X W st ψ) (h2 : VB X W sts χ) : VB X W (st :: sts) (seqS ψ χ) := by
  obtain ⟨t, p, r⟩ := h1
  obtain ⟨t', p', r'⟩ := h2
  refine ⟨_, pss_cons p p', fun H0 M0 M H σ env D g h => ?_⟩
  exact r H0 M0 M H σ env _ g (h.seq fun env' M' H' σ' g' h' => r' H0 M0 M' H' σ' env' D g' h')
theorem vb_one (h1 : VS X W st ψ) : VB X W [st] ψ := by
  obtain ⟨t, p, r⟩ := h1
  exact ⟨_, pss_one p, r⟩
def giveS (i : Nat) (ψ : Env → SRes) (env : Env) : SRes := ψ (give i env)
theorem vs_give (i : Nat) (h : VS X W st ψ) : VS X W st (giveS i ψ) := by
  obtain ⟨t, p, r⟩ := h
  refine ⟨t, p, fun H0 M0 M H σ env D g h => ?_⟩
  obtain ⟨M', g', e'⟩ := g.give i
  exact r H0 M0 M' H σ _ D g' (PostS.mono h e')
def bkS (env : Env) : SRes := .bk env
def ctS (env : Env) : SRes := .ct env
def dropS (φ : Env → Res VL.D) (env : Env) : SRes := ofE (φ env) env fun _ => .nx env
def retS (φ : Env → Res VL.D) (env : Env) : SRes := ofE (φ env) env fun d => .rt d
theorem Good.rt (g : Good (gm X) H0 M0 M H σ env) : VEx (Sh M (vw H)) (Sh M0 (vw H)) := fun a u h => by
  obtain ⟨h1, h2⟩ := Sh_some h
  rw [Sh_of]
  · exact h2
  · cases q : M0 a with
    | false => rfl
    | true => rw [g.sub a q] at h1; cases h1
theorem vs_ret (h : VE X W true e φ) : VS X W (.Return (some e) pos) (retS φ) := by
  obtain ⟨t, p, r⟩ := h
  refine ⟨_, ps_ret p, fun H0 M0 M H σ env D g h => ?_⟩
  exact r H0 M0 M H σ env _ g (PostS.ofE g h fun d v H1 e1 g1 r1 h1 => h1 v H1 g1.ex (r1.mono g1.rt))
def retNS (_ : Env) : SRes := .rt .non
def setS (i : Nat) (φ : Env → Res VL.D) (env : Env) : SRes := ofE (φ env) env fun d => .nx (env.set i (.sh d))
theorem vs_set (i : Nat) {x : Str} {pos' : Pos} (hN : X.N.Nodup) (h : VE X W true e φ) (hi : X.N[i]? = some x := by rfl) (hx : Loc X.env.scope x := by first | exact Or.inl rfl | exact Or.inr rfl) (hs : swapsWith e (some (.Name x pos')) pos.line X.env = pure false := by rfl)
    (hf : X.fn x = true ∨ X.env.scope.names.lookup x = some .local := by first | exact .inl rfl | exact .inr rfl | assumption) : VS X W (.Assign [.Name x pos'] e pos) (setS i φ) := by
  obtain ⟨t, p, r⟩ := h
  refine ⟨_, ps_set hN hi hx p hs hf, fun H0 M0 M H σ env D g h => ?_⟩
  exact r H0 M0 M H σ env _ g (PostS.ofE g h fun d v H1 e1 g1 r1 h1 => h1 M H1 _ (g1.set r1) (.refl _))
def PostN (X : Cx) (W : WX) (M : Addr → Bool) (σ : L2.St) (H : Hp) (Q : VK) : Res VL.D → Prop
  | .ok d => ∀ p H', H p = none → Ext H H' → OwOk (gm X) (addM M p) H' p d → Q (.ref p) H'
  | .exc c fs => ∀ cls dd H', Ext H H' → RpX (gm X) (Sh M (vw H')) c fs cls dd → W cls dd σ H'
  | .bad => False
def VF (X : Cx) (W : WX) (e : Expr) (φ : Env → Res VL.D) : Prop :=
  ∃ t : TE, PE X e t ∧ ∀ (H0 : Hp) (M0 M : Addr → Bool) (H : Hp) (σ : L2.St) (env : Env) (Q : VK), Good (gm X) H0 M0 M H σ env → PostN X W M σ H Q (φ env) → t σ H Q
theorem OwOk.rpN {H1 : Hp} {p : Addr} (m : M p = false) : ∀ {d : VL.D}, OwOk (gm X) (addM M p) H1 p d → Rp (gm X) (Sh M (vw H1)) d (.ref p) := by
  have le : VEx (Sh (addM M p) (vw H1)) (Sh M (vw H1)) := fun a u h => by
    obtain ⟨h1, h2⟩ := Sh_some h
    have : M a = false := by
      cases q : M a with
      | false => rfl
      | true => unfold addM at h1; rw [q] at h1; cases h1
    rw [Sh_of this]; exact h2
  intro d h
  match d, h with
  | .lst ds, ⟨xs, h, r⟩ => exact .lst (by rw [Sh_of m]; exact vw_of h trivial) (r.mono le)
  | .dic 0 es, ⟨kvs, h, k, r⟩ => exact .dicK (by rw [Sh_of m]; exact vw_of h trivial) k (r.mono le)
  | .dic 1 es, ⟨kvs, h, k, r⟩ => exact .dicT (by rw [Sh_of m]; exact vw_of h trivial) k (r.mono le)
  | .dic 2 es, ⟨kvs, h, n, k, r⟩ => exact .dicN (by rw [Sh_of m]; exact vw_of h trivial) (fun x hx => (n x hx).mono le) k (r.mono le)
  | .dic (_ + 3) _, h => exact h.elim
  | .ins c gs, ⟨C, dx, fs, mm, h, k, r⟩ => exact .ins mm (by rw [Sh_of m]; exact vw_of h trivial) k (r.mono le)
  | .non, h => exact h.elim
  | .bl _, h => exact h.elim
  | .int _, h => exact h.elim
  | .str _, h => exact h.elim
  | .tup _, h => exact h.elim
  | .scr _, h => exact h.elim
  | .exn _ _, h => exact h.elim
  | .sel x c gs, ⟨q, C, dx, fs, mm, h, k, r⟩ =>
    subst q
    exact .sel mm (by rw [Sh_of m]; exact vw_of h trivial) k (r.mono le)
theorem ve_new (h : VF X W e φ) : VE X W fl e φ := by
  obtain ⟨t, p, r⟩ := h
  refine ⟨t, p, fun H0 M0 M H σ env Q g h => ?_⟩
  refine r H0 M0 M H σ env Q g ?_
  cases q : φ env with
  | ok d =>
    rw [q] at h
    exact fun p H' hp e' o => h _ H' e' ((o.rpN (g.nm hp).1).mono (Sh_vis fl M _))
  | exc c fs => rw [q] at h; exact h
  | bad => rw [q] at h; exact h
def ownS (i : Nat) (φ : Env → Res VL.D) (env : Env) : SRes := ofE (φ env) env fun d => .nx (env.set i (.ow d))
theorem vs_own (i : Nat) {x : Str} {pos' : Pos} (hN : X.N.Nodup) (h : VF X W e φ) (hi : X.N[i]? = some x := by rfl) (hx : Loc X.env.scope x := by first | exact Or.inl rfl | exact Or.inr rfl) (hs : swapsWith e (some (.Name x pos')) pos.line X.env = pure false := by rfl)
    (hf : X.fn x = true ∨ X.env.scope.names.lookup x = some .local := by first | exact .inl rfl | exact .inr rfl | assumption) : VS X W (.Assign [.Name x pos'] e pos) (ownS i φ) := by
  obtain ⟨t, p, r⟩ := h
  refine ⟨_, ps_set hN hi hx p hs hf, fun H0 M0 M H σ env D g h => ?_⟩
  refine r H0 M0 M H σ env _ g ?_
  unfold ownS at h
  cases q : φ env with
  | ok d =>
    rw [q] at h
    exact fun p H' hp e' o => h _ H' _ (g.own hp e' o) (sh_add e' hp)
  | exc c fs => rw [q] at h; exact fun cls dd H1 e1 r1 => h M H1 σ cls dd (g.mono e1) (Sh_mono e1.v) r1
  | bad => rw [q] at h; exact h
theorem ow_newL {p : Addr} {ds : List VL.D} {xs : List V} (hp : H p = none) (r : RpL (gm X) (Sh M (vw H)) ds xs) : OwOk (gm X) (addM M p) (upd H p (.lst xs)) p (.lst ds) := ⟨xs, upd_same, r.mono (sh_add (Ext.new hp) hp)⟩
theorem vf_lst {es : List Expr} (h : VA X W true es φs) : VF X W (.List es pos) (aE lstD φs) := by
  obtain ⟨t, p, r⟩ := h
  refine ⟨_, pe_lst p, fun H0 M0 M H σ env Q g h => ?_⟩
  refine r H0 M0 M H σ env _ g ?_
  have h0 : PostN X W M σ H Q ((φs env).bind lstD) := h
  cases q : φs env with
  | ok ds =>
    rw [q] at h0
    intro vs H1 e1 r1
    have h1 : PostN X W M σ H Q (lstD ds) := h0
    unfold lstD at h1
    by_cases c : ds.length ≤ sizeLine
    · rw [if_pos c] at h1
      refine ⟨by rw [← r1.length]; exact c, fun p hp => h1 p _ (e1.fresh hp) (e1.trans (Ext.new hp)) (ow_newL hp r1)⟩
    · rw [if_neg c] at h1; exact h1.elim
  | exc c fs => rw [q] at h0; exact h0
  | bad => rw [q] at h0; exact h0
def appS (i : Nat) (φ : Env → Res VL.D) (env : Env) : SRes := match env[i]? with
  | some (.ow (.lst ds)) => ofE (φ env) env fun d => if ds.length < sizeLine then .nx (env.set i (.ow (.lst (ds ++ [d])))) else .bad
  | _ => .bad
theorem PostS.ite {c : Prop} [Decidable c] {r : SRes} (h : PostS X W H0 M0 M H D (if c then r else .bad)) : c ∧ PostS X W H0 M0 M H D r := by
  by_cases hc : c
  · rw [if_pos hc] at h; exact ⟨hc, h⟩
  · rw [if_neg hc] at h; exact h.elim
theorem vs_app (i : Nat) {x : Str} {px apos cpos : Pos} (h : VE X W true e φ) (hN : X.N[i]? = some x := by rfl) (hv : Vis X.env.scope x := by first | exact Or.inl rfl | exact Or.inr (Or.inl rfl) | exact Or.inr (Or.inr rfl))
    (hp : ∀ (ta : TE) (r : PE X (.Name x px) ta) (tb : TA) (rb : PA X [e] tb), PE X (.Call (.Attribute (.Name x px) "append" apos) [e] [] cpos) (tBM X.K "list" rAppend ta tb) := by exact fun _ r _ rb => pe_bm PySem.F.plainAttrs_list PySem.F.slot_list_append PySem.F.type_list_append mt_append r rb)
    (hd : (x == ("__debug__" : Str)) = false := by decide) (hcd : (x == ("__classdict__" : Str)) = false := by decide)
    (hs : swapsWith (.Call (.Attribute (.Name x px) "append" apos) [e] [] cpos) none pos.line X.env = pure false := by rfl) (hst : starEach (e :: []) X.env = (false, eval e X.env) :: starEach [] X.env := by rfl) :
    VS X W (.Expr (.Call (.Attribute (.Name x px) "append" apos) [e] [] cpos) pos) (appS i φ) := by
  obtain ⟨t, p, r⟩ := h
  refine ⟨_, ps_expr (hp _ (pe_var hN hv hd hcd) _ (pa_cons p pa_nil hst)) hs, fun H0 M0 M H σ env D g h => ?_⟩
  unfold appS at h
  cases q : env[i]? with
  | none => rw [q] at h; exact h.elim
  | some s =>
    rw [q] at h
    cases s with
    | no => exact h.elim
    | sh d => exact h.elim
    | ow d =>
      cases d with
      | lst ds =>
        obtain ⟨p', hv', mp, m0, xs, hx, rx⟩ := g.sl i _ q
        refine ⟨_, hv', .inl ⟨rfl, _, SqL.of hx⟩, ?_⟩
        refine r H0 M0 M H σ env _ g (PostS.ofE g h fun d v H1 e1 g1 r1 h1 => ?_)
        obtain ⟨hc, h1⟩ := PostS.ite h1
        have rx1 := rx.mono (Sh_mono e1.v)
        refine ⟨p', xs, v, rfl, rfl, e1 _ _ hx, by rw [← rx.length]; exact hc, ?_⟩
        have rr : OwOk (gm X) M (upd H1 p' (.lst (xs ++ [v]))) p' (.lst (ds ++ [d])) := ⟨_, upd_same, by rw [sh_mut mp]; exact rx1.append (.cons r1 .nil)⟩
        exact h1 M _ σ (g1.mut q hv' rr) (by rw [sh_mut mp]; exact .refl _)
      | _ => exact h.elim
def ifS (τ : Env → Res Bool) (ψ χ : Env → SRes) (env : Env) : SRes := ofT (τ env) env fun k => if k = true then ψ env else χ env
theorem vs_if (hc : VT X W e τ) (ha : VB X W a ψ) (hb : VB X W b χ) : VS X W (.If e a b pos) (ifS τ ψ χ) := by
  obtain ⟨t, p, r⟩ := hc
  obtain ⟨ta, pa, ra⟩ := ha
  obtain ⟨tb, pb, rb⟩ := hb
  refine ⟨_, ps_if p pa pb, fun H0 M0 M H σ env D g h => ?_⟩
  refine r H0 M0 M H σ env _ g (PostS.ofT g h fun k H1 e1 g1 h1 => ?_)
  cases k with
  | true => rw [if_pos rfl] at h1 ⊢; exact ra H0 M0 M H1 σ env D g1 h1
  | false => rw [if_neg Bool.false_ne_true] at h1 ⊢; exact rb H0 M0 M H1 σ env D g1 h1
def gnG (i : Nat) (d : VL.D) (env : Env) : Option Env := some (env.set i (.sh d))
theorem vg_n (i : Nat) {x : Str} (hN : X.N.Nodup) (hi : X.N[i]? = some x := by rfl) (hx : Loc X.env.scope x := by first | exact Or.inl rfl | exact Or.inr rfl) (hf : X.fn x = true ∨ X.env.scope.names.lookup x = some .local := by first | exact .inl rfl | exact .inr rfl | assumption) :
    VG X (.Name x pos) (gnG i) := ⟨_, pg_name hN hi hx hf, fun H0 M0 M H σ env env' d v Q g r e q => by cases e; exact q _ (g.set r)⟩
def asgS (γ : VL.D → Env → Option Env) (φ : Env → Res VL.D) (env : Env) : SRes := ofE (φ env) env fun d => match γ d env with
  | some env' => .nx env'
  | none => .bad
end
end VL

set_option maxRecDepth 100000
set_option maxHeartbeats 2000000
namespace VL
open PySem L2

def ItOk (mg : Gm) (H0 : Hp) (M : Addr → Bool) (H : Hp) (J : It) (ds : List D) : Prop :=
  ∀ (M' : Addr → Bool) (H' : Hp), MOk M' H' → Ext H0 H' → VEx (Sh M (vw H)) (Sh M' (vw H')) → ∀ i : Nat, (ds.length ≤ i → J.stop i H') ∧ ∀ d, ds[i]? = some d → J.go i H' ∧ ∀ x H2, J.yld i H' x H2 → Ext H' H2 ∧ Rp mg (Sh M' (vw H2)) d x
def PostI (X : Cx) (W : WX) (H0 : Hp) (M : Addr → Bool) (σ : L2.St) (H : Hp) (R : It → Hp → Prop) : Res (List D) → Prop
  | .ok ds => ∀ J H', Ext H H' → ItOk (gm X) H0 M H' J ds → R J H'
  | .exc c fs => ∀ cls dd H', Ext H H' → RpX (gm X) (Sh M (vw H')) c fs cls dd → W cls dd σ H'
  | .bad => False
def VI (X : Cx) (W : WX) (tg iter : Expr) (ι : Env → Res (List D)) : Prop :=
  ∃ wi : TI, PI X tg iter wi ∧ ∀ (H0 : Hp) (M0 M : Addr → Bool) (H : Hp) (σ : L2.St) (env : Env) (R : It → Hp → Prop), Good (gm X) H0 M0 M H σ env → PostI X W H0 M σ H R (ι env) → wi σ H R
theorem PostI.mono {X : Cx} {W : WX} {H0 : Hp} {M : Addr → Bool} {σ : L2.St} {H H' : Hp} {R : It → Hp → Prop} {r : Res (List D)} (h : PostI X W H0 M σ H R r) (e : Ext H H') : PostI X W H0 M σ H' R r := by
  cases r with
  | ok d => exact fun J H2 e2 r => h J H2 (e.trans e2) r
  | exc c fs => exact fun cls dd H2 e2 r => h cls dd H2 (e.trans e2) r
  | bad => exact h
theorem PostI.seq {X : Cx} {W : WX} {H0 : Hp} {fl : Bool} {M : Addr → Bool} {σ : L2.St} {H : Hp} {R : It → Hp → Prop} {r : Res D} {f : D → Res (List D)} {Q' : VK} (h : PostI X W H0 M σ H R (r.bind f))
    (k : ∀ d v H1, Ext H H1 → Rp (gm X) (vis fl M (vw H1)) d v → PostI X W H0 M σ H1 R (f d) → Q' v H1) : PostE X W fl M σ H Q' r := by
  cases r with
  | ok d => exact fun v H1 e1 r1 => k d v H1 e1 r1 (PostI.mono h e1)
  | exc c fs => exact h
  | bad => exact h
theorem PostI.args {X : Cx} {W : WX} {H0 : Hp} {fl : Bool} {M : Addr → Bool} {σ : L2.St} {H : Hp} {R : It → Hp → Prop} {r : Res (List D)} {f : List D → Res (List D)} {Q' : List V → Hp → Prop} (h : PostI X W H0 M σ H R (r.bind f))
    (k : ∀ d v H1, Ext H H1 → RpL (gm X) (vis fl M (vw H1)) d v → PostI X W H0 M σ H1 R (f d) → Q' v H1) : PostA X W fl M σ H Q' r := by
  cases r with
  | ok d => exact fun v H1 e1 r1 => k d v H1 e1 r1 (PostI.mono h e1)
  | exc c fs => exact h
  | bad => exact h
theorem pi_or {X : Cx} {tg iter : Expr} {w1 w2 : TI} (h1 : PI X tg iter w1) (h2 : PI X tg iter w2) : PI X tg iter (fun σ H R => w1 σ H R ∨ w2 σ H R) :=
  ⟨fun pins s σ H R I h => h.elim (h1.run pins s σ H R I) (h2.run pins s σ H R I)⟩
def strItems (z : Str) : List D := z.cps.toList.map fun c => .str ⟨#[c]⟩
def itemsD : D → Res (List D)
  | .lst ds => .ok ds
  | .tup ds => .ok ds
  | .str z => .ok (strItems z)
  | _ => .bad
def iE (φ : Env → Res D) (env : Env) : Res (List D) := (φ env).bind itemsD
section
variable {mg : Gm} {M M' : Addr → Bool} {H0 H H' : Hp} {K : PySem.W.Frag}
theorem itOk_list {a : Addr} {xs : List V} {ds : List D} (h : Sh M (vw H) a = some (.lst xs)) (r : RpL mg (Sh M (vw H)) ds xs) : ItOk mg H0 M H (Itl K a) ds := by
  intro M' H' m e0 e i
  have h' := e _ _ h
  have q : SqL K H' a xs := .inl (vw_lst (Sh_some h').2)
  refine ⟨fun hi => ⟨xs, q, by rw [← r.length]; exact hi⟩, fun d hd => ?_⟩
  obtain ⟨x, hx, rx⟩ := r.get hd
  refine ⟨⟨xs, x, q, hx⟩, fun y H2 z => ?_⟩
  obtain ⟨z1, z2⟩ := z
  subst z1
  have := (z2 xs q).symm.trans hx
  cases this
  exact ⟨Ext.refl _, rx.mono e⟩
theorem itOk_tup {a : Addr} {xs : List V} {ds : List D} (h : Sh M (vw H) a = some (.tup xs)) (r : RpL mg (Sh M (vw H)) ds xs) : ItOk mg H0 M H (Itt K a) ds := by
  intro M' H' m e0 e i
  have h' := e _ _ h
  have q : SqT K H' a xs := .inl (.inl (vw_tup (Sh_some h').2))
  refine ⟨fun hi => ⟨xs, q, by rw [← r.length]; exact hi⟩, fun d hd => ?_⟩
  obtain ⟨x, hx, rx⟩ := r.get hd
  refine ⟨⟨xs, x, q, hx⟩, fun y H2 z => ?_⟩
  obtain ⟨z1, z2⟩ := z
  subst z1
  have := (z2 xs q).symm.trans hx
  cases this
  exact ⟨Ext.refl _, rx.mono e⟩
theorem itOk_str {z : Str} : ItOk mg H0 M H (Its z) (strItems z) := by
  intro M' H' m e0 e i
  have hl : (strItems z).length = z.cps.size := by unfold strItems; rw [List.length_map]; exact Array.length_toList
  refine ⟨fun hi => by rw [hl] at hi; exact hi, fun d hd => ?_⟩
  unfold strItems at hd
  rw [List.getElem?_map] at hd
  cases q : z.cps.toList[i]? with
  | none => rw [q] at hd; cases hd
  | some c =>
    rw [q] at hd
    cases hd
    have q' : z.cps[i]? = some c := by rw [← Array.getElem?_toList]; exact q
    refine ⟨(Array.getElem?_eq_some_iff.mp q').1, fun x H2 y => ?_⟩
    obtain ⟨y1, c', y2, y3⟩ := y
    subst y1
    rw [q'] at y2
    cases y2
    subst y3
    exact ⟨Ext.refl _, .str _⟩
def rangeD (lo : Int) (n : Nat) : List D := (List.range n).map fun (i : Nat) => .int (lo + (i : Int))
theorem itOk_range {lo : Int} {n : Nat} : ItOk mg H0 M H (Itr lo n) (rangeD lo n) := by
  intro M' H' m e0 e i
  have hl : (rangeD lo n).length = n := by unfold rangeD; rw [List.length_map, List.length_range]
  refine ⟨fun hi => by rw [hl] at hi; exact hi, fun d hd => ?_⟩
  have hi : i < n := by
    have := (List.getElem?_eq_some_iff.mp hd).1
    rw [hl] at this; exact this
  unfold rangeD at hd
  rw [List.getElem?_map, List.getElem?_range hi] at hd
  cases hd
  refine ⟨hi, fun x H2 y => ?_⟩
  obtain ⟨y1, y2⟩ := y
  subst y1; subst y2
  exact ⟨Ext.refl _, .int _⟩
end
section
variable {X : Cx} {W : WX} {fl fla flb : Bool} {tg e iter : Expr} {es : List Expr} {sts : List Stmt} {pos : Pos} {φ : Env → Res D} {τ : Env → Res Bool} {φs : Env → Res (List D)} {ψ χ : Env → SRes} {ι : Env → Res (List D)} {γ : D → Env → Option Env}
theorem vi_seq (h : VE X W true e φ) : VI X W tg e (iE φ) := by
  obtain ⟨t, p, r⟩ := h
  refine ⟨_, pi_or (pi_list p) (pi_or (pi_tup p) (pi_str p)), fun H0 M0 M H σ env R g h => ?_⟩
  have h0 : PostI X W H0 M σ H R ((φ env).bind itemsD) := h
  have go : ∀ {Q' : VK}, (∀ d v H1, φ env = .ok d → Ext H H1 → Rp (gm X) (Sh M (vw H1)) d v → PostI X W H0 M σ H1 R (itemsD d) → Q' v H1) → t σ H Q' := fun {Q'} k => by
    refine r H0 M0 M H σ env _ g ?_
    cases q : φ env with
    | ok d => rw [q] at h0; exact fun v H1 e1 r1 => k d v H1 q e1 r1 (PostI.mono h0 e1)
    | exc c fs => rw [q] at h0; exact h0
    | bad => rw [q] at h0; exact h0
  have pick : (∃ ds, φ env = .ok (.tup ds)) ∨ (∃ z, φ env = .ok (.str z)) ∨ ∀ d, φ env = .ok d → (∀ ds, d ≠ .tup ds) ∧ ∀ z, d ≠ .str z := by
    cases q : φ env with
    | ok d =>
      cases d with
      | tup ds => exact .inl ⟨ds, rfl⟩
      | str z => exact .inr (.inl ⟨z, rfl⟩)
      | _ => exact .inr (.inr fun d hd => by cases hd; exact ⟨(fun _ z => nomatch z), (fun _ z => nomatch z)⟩)
    | exc c fs => exact .inr (.inr fun d hd => by cases hd)
    | bad => exact .inr (.inr fun d hd => by cases hd)
  rcases pick with ⟨ds, q⟩ | ⟨z, q⟩ | q
  · refine .inr (.inl (go fun d v H1 qd e1 r1 h1 => ?_))
    rw [q] at qd; cases qd
    cases r1 with
    | tup ha ra => exact ⟨_, rfl, ⟨_, .inl (.inl (vw_tup (Sh_some ha).2))⟩, h1 _ H1 (Ext.refl _) (itOk_tup ha ra)⟩
  · refine .inr (.inr (go fun d v H1 qd e1 r1 h1 => ?_))
    rw [q] at qd; cases qd
    cases r1
    exact ⟨z, rfl, h1 _ H1 (Ext.refl _) itOk_str⟩
  · refine .inl (go fun d v H1 qd e1 r1 h1 => ?_)
    obtain ⟨n1, n2⟩ := q d qd
    cases d with
    | lst ds =>
      cases r1 with
      | lst ha ra => exact ⟨_, rfl, ⟨_, .inl (vw_lst (Sh_some ha).2)⟩, h1 _ H1 (Ext.refl _) (itOk_list ha ra)⟩
    | tup ds => exact absurd rfl (n1 ds)
    | str z => exact absurd rfl (n2 z)
    | _ => exact h1.elim
def small62 (j : Int) : Bool := decide (j.natAbs.log2 < 62)
theorem small62_bd {j : Int} (h : small62 j = true) : -4611686018427387904 ≤ j ∧ j < 4611686018427387904 := by
  have h' : j.natAbs.log2 < 62 := of_decide_eq_true h
  by_cases hz : j.natAbs = 0
  · omega
  · have := (Nat.log2_lt hz).mp h'
    omega
theorem small62_of {j : Int} (h : -4611686018427387904 < j) (h2 : j < 4611686018427387904) : small62 j = true := by
  refine decide_eq_true ?_
  by_cases hz : j.natAbs = 0
  · rw [hz]; decide
  · exact (Nat.log2_lt hz).mpr (by omega)
def range1 : List D → Res (List D)
  | [.int j] => if small62 j = true then .ok (rangeD 0 j.toNat) else .bad
  | _ => .bad
def range2 : List D → Res (List D)
  | [.int i, .int j] => if small62 i = true ∧ small62 j = true then .ok (rangeD i (j - i).toNat) else .bad
  | _ => .bad
def aI (f : List D → Res (List D)) (φs : Env → Res (List D)) (env : Env) : Res (List D) := (φs env).bind f
theorem PostI.ite {H0 : Hp} {M : Addr → Bool} {σ : L2.St} {H : Hp} {R : It → Hp → Prop} {c : Prop} [Decidable c] {r : Res (List D)} (h : PostI X W H0 M σ H R (if c then r else .bad)) : c ∧ PostI X W H0 M σ H R r := by
  by_cases hc : c
  · rw [if_pos hc] at h; exact ⟨hc, h⟩
  · rw [if_neg hc] at h; exact h.elim
theorem vi_range1 {a : Expr} {p : Pos} (hm : X.mg "range" = none) (ha : VA X W fl [a] φs) (hg : Gl X "range" := by rfl) (hs : starEach [a] X.env = [(false, eval a X.env)] := by rfl) : VI X W tg (.Call (.Name "range" p) [a] [] pos) (aI range1 φs) := by
  obtain ⟨t, pt, r⟩ := ha
  refine ⟨_, pi_range1 hg hm pt hs, fun H0 M0 M H σ env R g h => ?_⟩
  refine r H0 M0 M H σ env _ g (PostI.args h fun ds vs H1 e1 r1 h1 => ?_)
  cases r1 with
  | nil => exact h1.elim
  | cons r t =>
    cases t with
    | cons _ _ => cases r <;> exact h1.elim
    | nil =>
      cases r <;> first | exact h1.elim | skip
      obtain ⟨hs, h1⟩ := PostI.ite h1
      exact ⟨_, rfl, (small62_bd hs).1, (small62_bd hs).2, h1 _ H1 (Ext.refl _) itOk_range⟩
theorem vi_range2 {a b : Expr} {p : Pos} (hm : X.mg "range" = none) (ha : VA X W fl [a, b] φs) (hg : Gl X "range" := by rfl) (hs : starEach [a, b] X.env = [(false, eval a X.env), (false, eval b X.env)] := by rfl) (hs2 : starEach [b] X.env = [(false, eval b X.env)] := by rfl) : VI X W tg (.Call (.Name "range" p) [a, b] [] pos) (aI range2 φs) := by
  obtain ⟨t, pt, r⟩ := ha
  refine ⟨_, pi_range2 hg hm pt hs hs2, fun H0 M0 M H σ env R g h => ?_⟩
  refine r H0 M0 M H σ env _ g (PostI.args h fun ds vs H1 e1 r1 h1 => ?_)
  cases r1 with
  | nil => exact h1.elim
  | cons r t =>
    cases t with
    | nil => cases r <;> exact h1.elim
    | cons r' t' =>
      cases t' with
      | cons _ _ => cases r <;> (first | exact h1.elim | (cases r' <;> exact h1.elim))
      | nil =>
        cases r <;> first | exact h1.elim | skip
        cases r' <;> first | exact h1.elim | skip
        obtain ⟨hs, h1⟩ := PostI.ite h1
        exact ⟨_, _, rfl, ⟨(small62_bd hs.1).1, (small62_bd hs.1).2, (small62_bd hs.2).1, (small62_bd hs.2).2⟩, h1 _ H1 (Ext.refl _) itOk_range⟩
def flowL (r : SRes) (k : Env → SRes) : SRes := match r with
  | .nx env => k env
  | .ct env => k env
  | .bk env => .nx env
  | r => r
def forL (γ : D → Env → Option Env) (ψ : Env → SRes) : List D → Env → SRes
  | [], env => .nx env
  | d :: ds, env => match γ d env with
    | none => .bad
    | some env1 => flowL (ψ env1) (forL γ ψ ds)
def forS (γ : D → Env → Option Env) (ι : Env → Res (List D)) (ψ : Env → SRes) (env : Env) : SRes := ofA (ι env) env fun ds => forL γ ψ ds env
theorem vs_for (hp : PassesOwn (model X.prog X.w) X.A X.env X.xe) (hc : X.calm = true) (hi : VI X W tg iter ι) (hg : VG X tg γ) (hb : VB X W sts ψ) (hs : ∀ x, foldedSetIterable iter X.env x = pure x := by intro _; rfl) : VS X W (.For tg iter sts [] pos) (forS γ ι ψ) := by
  obtain ⟨wi, pi, ri⟩ := hi
  obtain ⟨tg', pg, rg⟩ := hg
  obtain ⟨tb, pb, rb⟩ := hb
  refine ⟨_, ps_for hp hc pi pg pb hs, fun H0 M0 M H σ env D g h => ?_⟩
  refine ri H0 M0 M H σ env _ g ?_
  unfold forS at h
  cases q : ι env with
  | bad => rw [q] at h; exact h
  | exc c fs => rw [q] at h; exact fun cls dd H1 e1 r1 => h M H1 σ cls dd (g.mono e1) (Sh_mono e1.v) r1
  | ok ds =>
    rw [q] at h
    intro J H1 e1 ok
    have h1 : PostS X W H0 M0 M H1 D (forL γ ψ ds env) := PostS.mono h (Sh_mono e1.v)
    refine ⟨fun i m σ' H' => m = ds.length - i ∧ ∃ M' env', Good (gm X) H0 M0 M' H' σ' env' ∧ VEx (Sh M (vw H1)) (Sh M' (vw H')) ∧ PostS X W H0 M0 M' H' D (forL γ ψ (ds.drop i) env'), ⟨ds.length, rfl, M, env, g.mono e1, .refl _, h1⟩, ?_⟩
    rintro i m σ' H' ⟨rfl, M', env', g', e', h'⟩
    obtain ⟨o1, o2⟩ := ok M' H' g'.ok g'.ex e' i
    cases qd : ds[i]? with
    | none =>
      have hi : ds.length ≤ i := List.getElem?_eq_none_iff.mp qd
      rw [List.drop_of_length_le hi] at h'
      exact .inl ⟨o1 hi, h' M' H' σ' g' (.refl _)⟩
    | some d =>
      obtain ⟨o3, o4⟩ := o2 d qd
      have hi : i < ds.length := (List.getElem?_eq_some_iff.mp qd).1
      have hdr : ds.drop i = d :: ds.drop (i + 1) := by
        rw [List.drop_eq_getElem_cons hi]
        rw [List.getElem?_eq_getElem hi] at qd
        cases qd; rfl
      rw [hdr] at h'
      unfold forL at h'
      cases qg : γ d env' with
      | none => rw [qg] at h'; exact h'.elim
      | some env1 =>
        rw [qg] at h'
        refine .inr ⟨o3, fun σ2 H2 => ∃ M2 env2, Good (gm X) H0 M0 M2 H2 σ2 env2 ∧ VEx (Sh M (vw H1)) (Sh M2 (vw H2)) ∧ PostS X W H0 M0 M2 H2 D (forL γ ψ (ds.drop (i + 1)) env2), fun σ2 H2 ⟨M2, env2, x1, x2, x3⟩ => ⟨ds.length - (i + 1), by omega, rfl, M2, env2, x1, x2, x3⟩, fun x H2 y => ?_⟩
        obtain ⟨ey, ry⟩ := o4 x H2 y
        refine rg H0 M0 M' H2 σ' env' env1 d x _ (g'.mono ey) ry qg fun σ3 g3 => ?_
        have h3 : PostS X W H0 M0 M' H2 D (flowL (ψ env1) (forL γ ψ (ds.drop (i + 1)))) := PostS.mono h' (Sh_mono (M := M') ey.v)
        have e3 := e'.trans (Sh_mono (M := M') ey.v)
        refine rb H0 M0 M' H2 σ3 env1 _ g3 ?_
        cases qb : ψ env1 with
        | nx env2 => rw [qb] at h3; exact fun M4 H4 σ4 g4 e4 => ⟨M4, env2, g4, e3.trans e4, PostS.mono h3 e4⟩
        | ct env2 => rw [qb] at h3; exact fun M4 H4 σ4 g4 e4 => ⟨M4, env2, g4, e3.trans e4, PostS.mono h3 e4⟩
        | bk env2 => rw [qb] at h3; exact h3
        | rt d => rw [qb] at h3; exact h3
        | xc c fs env2 => rw [qb] at h3; exact h3
        | bad => rw [qb] at h3; exact h3
        | ro d => rw [qb] at h3; exact h3
end
end VL

set_option maxRecDepth 100000
set_option maxHeartbeats 2000000
namespace VL
open PySem L2

def env0 (m : Nat) (ds : List D) : Env := ds.map .sh ++ List.replicate (m - ds.length) .no
def outS : SRes → Res D
  | .rt d => .ok d
  | .nx _ => .ok .non
  | .xc c fs _ => .exc c fs
  | _ => .bad
def defM (m : Nat) (ψ : Env → SRes) (ds : List D) : Res D := outS (ψ (env0 m ds))
theorem good0 {mg : Gm} {H : Hp} {M : Addr → Bool} {ds : List D} {vs : List V} {N : List Str} (m : MOk M H) (r : RpL mg (Sh M (vw H)) ds vs) : Good mg H M M H (L2.start N vs) (env0 N.length ds) where
  len := by unfold L2.start env0; rw [List.length_append, List.length_append, List.length_map, List.length_map, List.length_replicate, List.length_replicate, r.length]
  ok := m
  sub := fun a h => h
  new := fun a h => .inl h
  ok0 := m
  ex := .refl H
  sl := fun i s h => by
    unfold env0 at h
    by_cases hi : i < ds.length
    · rw [List.getElem?_append_left (by rw [List.length_map]; exact hi), List.getElem?_map] at h
      cases q : ds[i]? with
      | none => rw [q] at h; cases h
      | some d =>
        rw [q] at h
        cases h
        obtain ⟨v, hv, rv⟩ := r.get q
        refine ⟨v, ?_, rv⟩
        unfold L2.start
        rw [List.getElem?_append_left (by rw [List.length_map, ← r.length]; exact hi), List.getElem?_map, hv]
        rfl
    · rw [List.getElem?_append_right (by rw [List.length_map]; omega)] at h
      have := List.mem_of_getElem? h
      rw [List.mem_replicate] at this
      rw [this.2]
      trivial
  inj := fun i j p hne h1 h2 h3 => by
    have no : isOw (env0 N.length ds)[i]? = false := by
      unfold env0
      by_cases hi : i < ds.length
      · rw [List.getElem?_append_left (by rw [List.length_map]; exact hi), List.getElem?_map]
        cases ds[i]? <;> rfl
      · rw [List.getElem?_append_right (by rw [List.length_map]; omega)]
        cases q : (List.replicate (N.length - ds.length) Sl.no)[i - (List.map Sl.sh ds).length]? with
        | none => rfl
        | some s =>
          have := List.mem_of_getElem? q
          rw [List.mem_replicate] at this
          rw [this.2]; rfl
    rw [no] at h1; cases h1
abbrev WB (E : XK) : WX := fun cls d _ H => E cls d H
theorem fun_okN {P : Program} {w : World} {K : PySem.W.Frag} {mg : Str → Option Value} {base : Heap} {CX : CXT} {x qual : Str} {st : Stmt} {f : Addr} {fd : FuncData} {N ps : List Str} {k : Nat} {sp : Sp} (F : Fun K x qual st f fd) (S : FnScope N ps (defScope st)) (len : ∀ vs H Q E, sp vs H Q E → vs.length = ps.length)
    (hbody : ∀ (cdv : Value) (A : Around) (outer : List PySem.Env) (s : Shared) (H : Hp) (vs : List V) (Q : VK) (E : XK), Room k (A.deeper (PyProof.Rows.envOfC qual (defScope st) s.heap.objs.size f cdv)) → sp vs H Q E →
      ∃ t, PSs (cxOf CX P w K mg base N qual (defScope st) f cdv A outer s H E) (defBody st) t ∧ t { nx := fun _ H' => Q .non H', rt := Q } (L2.start N vs) H) : FnOk P w K mg base CX (k + 1) f fd ps sp := by
  obtain ⟨oc, od, kV, doc, pm, an, cdv, ct, osl, rfl, lk, hcd⟩ := F.ex
  exact fn_of lk hcd S len fun A outer s H vs Q E hr hsp => hbody cdv A outer s H vs Q E hr hsp
theorem fn_v {P : Program} {w : World} {K : PySem.W.Frag} {mg : Str → Option Value} {base : Heap} {x qual : Str} {st : Stmt} {f : Addr} {fd : FuncData} {N ps : List Str} {k n : Nat} {ψ : Env → SRes} (F : Fun K x qual st f fd) (S : FnScope N ps (defScope st)) (hn : ps.length = n)
    (body : ∀ (cdv : Value) (A : Around) (outer : List PySem.Env) (s : Shared) (H : Hp) (E : XK), Room k (A.deeper (PyProof.Rows.envOfC qual (defScope st) s.heap.objs.size f cdv)) →
      L2N.Takes (cxOf (L2N.CX P w) P w K mg base N qual (defScope st) f cdv A outer s H E) (WB E) →
      PassesOwn (model P w) (A.deeper (PyProof.Rows.envOfC qual (defScope st) s.heap.objs.size f cdv)) (PyProof.Rows.envOfC qual (defScope st) s.heap.objs.size f cdv) (cxOf (L2N.CX P w) P w K mg base N qual (defScope st) f cdv A outer s H E).xe →
      VB (cxOf (L2N.CX P w) P w K mg base N qual (defScope st) f cdv A outer s H E) (WB E) (defBody st) ψ) :
    FnOk P w K mg base (L2N.CX P w) (k + 1) f fd ps (spV ⟨P, w, K, mg⟩ n (defM N.length ψ)) := by
  refine fun_okN F S (fun vs H Q E h => h.1.trans hn.symm) fun cdv A outer s H vs Q E hr h => ?_
  obtain ⟨hl, M, ds, m, r, post⟩ := h
  obtain ⟨t, p, rr⟩ := body cdv A outer s H E hr (L2N.takes_of rfl rfl rfl rfl) (passes_of rfl)
  refine ⟨t, p, rr H M M H _ (env0 N.length ds) _ (good0 m r) ?_⟩
  unfold defM at post
  cases q : ψ (env0 N.length ds) with
  | rt d => rw [q] at post; exact fun v H' e r' => post v H' e r'
  | nx env => rw [q] at post; exact fun M' H' σ' g e => post .non H' g.ex .non
  | bk env => rw [q] at post; exact post.elim
  | ct env => rw [q] at post; exact post.elim
  | xc c fs env =>
    rw [q] at post
    exact fun M' H' σ' cls dd g e r' => post cls dd H' g.ex (r'.mono (Good.rt (X := cxOf (L2N.CX P w) P w K mg base N qual (defScope st) f cdv A outer s H E) g))
  | bad => rw [q] at post; exact post
  | ro d => rw [q] at post; exact post.elim
theorem fn_is {P : Program} {w : World} {K : PySem.W.Frag} {mg : Str → Option Value} {base : Heap} {CX : CXT} {f : Addr} {fd : FuncData} {ps : List Str} {k n : Nat} {gm : Gm} {F G : List D → Res D} (h : FnOk P w K mg base CX k f fd ps (spV gm n F)) (e : ∀ ds, G ds ≠ .bad → F ds = G ds) :
    FnOk P w K mg base CX k f fd ps (spV gm n G) := h.imp fun vs H Q E s => by
  obtain ⟨hl, M, ds, m, r, post⟩ := s
  refine ⟨hl, M, ds, m, r, ?_⟩
  by_cases c : G ds = .bad
  · rw [c] at post; exact post.elim
  · rw [e ds c]; exact post

def tVE (g : Gm) (X : Cx) (W : WX) (fl : Bool) (φ : Env → Res D) : TE := fun σ H Q => ∃ H0 M0 M env, Good g H0 M0 M H σ env ∧ PostE X W fl M σ H Q (φ env)
def tVT (g : Gm) (X : Cx) (W : WX) (τ : Env → Res Bool) : TT := fun σ H Q => ∃ H0 M0 M env, Good g H0 M0 M H σ env ∧ PostT X W M σ H Q (τ env)
def wipeE : Env → List Nat → Env
  | env, [] => env
  | env, v :: vs => (wipeE env vs).set v .no
theorem Good.no {mg : Gm} {H0 H : Hp} {M0 M : Addr → Bool} {σ : L2.St} {env : Env} (g : Good mg H0 M0 M H σ env) (i : Nat) (x : Option V) : Good mg H0 M0 M H (σ.set i x) (env.set i .no) where
  len := by rw [List.length_set, List.length_set]; exact g.len
  ok := g.ok
  sub := g.sub
  new := g.new
  ok0 := g.ok0
  ex := g.ex
  sl := fun j s h => by
    by_cases e : j = i
    · subst e
      have hj : j < env.length := by
        have := (List.getElem?_eq_some_iff.mp h).1
        rw [List.length_set] at this; exact this
      rw [List.getElem?_set_self hj] at h
      cases h
      trivial
    · rw [get_set_ne e] at h ⊢
      exact g.sl j s h
  inj := fun j k p hne h1 h2 h3 => by
    by_cases e1 : j = i
    · subst e1; rw [isOw_sh rfl] at h1; cases h1
    · by_cases e2 : k = i
      · subst e2; rw [isOw_sh rfl] at h2; cases h2
      · rw [get_set_ne e1] at h1 h3
        rw [get_set_ne e2] at h2 ⊢
        exact g.inj j k p hne h1 h2 h3
theorem Good.wipe {mg : Gm} {H0 H : Hp} {M0 M : Addr → Bool} {σ : L2.St} {env : Env} (g : Good mg H0 M0 M H σ env) : ∀ vs : List Nat, Good mg H0 M0 M H (L2.wipe σ vs) (wipeE env vs)
  | [] => g
  | v :: vs => (Good.wipe g vs).no v none
theorem Good.beside {mg : Gm} {H0 H H' : Hp} {M0 M : Addr → Bool} {σ : L2.St} {env : Env} (g : Good mg H0 M0 M H σ env) {p : Addr} (hp : H p = none) (e : Ext H H') {xs : List V} (hx : H' p = some (.lst xs)) : Good mg H0 M0 (addM M p) H' σ env where
  len := g.len
  ok := by
    have m := g.ok.mono e
    refine ⟨fun a h => ?_, fun a xs h z => ?_, fun a fs h z => ?_⟩
    · by_cases q : a = p
      · subst q; exact ⟨_, hx⟩
      · rw [addM_ne q] at h; exact m.dom a h
    · by_cases q : a = p
      · subst q; rw [hx] at z; cases z
      · rw [addM_ne q] at h; exact m.tup a xs h z
    · by_cases q : a = p
      · subst q; rw [hx] at z; cases z
      · rw [addM_ne q] at h; exact m.xd a fs h z
  sub := fun a h => by
    by_cases q : a = p
    · subst q; exact addM_self
    · rw [addM_ne q]; exact g.sub a h
  new := fun a h => by
    by_cases q : a = p
    · subst q; exact .inr (g.h0 hp)
    · rw [addM_ne q] at h; exact g.new a h
  ok0 := g.ok0
  ex := g.ex.trans e
  sl := fun j s h => (g.sl j s h).imp (sh_add e hp) fun a _ ha => ⟨by
    have : a ≠ p := fun z => by rw [z, (g.nm hp).1] at ha; cases ha
    rw [addM_ne this]; exact ha, fun o ho => e a o ho⟩
  inj := g.inj
theorem Good.turn {mg : Gm} {H0 H : Hp} {M0 M : Addr → Bool} {σ : L2.St} {env : Env} (g : Good mg H0 M0 M H σ env) {p : Addr} {xs : List V} (mp : M p = true) (h0 : H0 p = none) (hs : ∀ i : Nat, isOw env[i]? = true → σ[i]? ≠ some (some (V.ref p))) : Good mg H0 M0 M (upd H p (.lst xs)) σ env where
  len := g.len
  ok := by
    refine ⟨fun a h => ?_, fun a xs h z => ?_, fun a fs h z => ?_⟩
    · by_cases q : a = p
      · subst q; exact ⟨_, upd_same⟩
      · rw [upd_ne q]; exact g.ok.dom a h
    · by_cases q : a = p
      · subst q; rw [upd_same] at z; cases z
      · rw [upd_ne q] at z; exact g.ok.tup a xs h z
    · by_cases q : a = p
      · subst q; rw [upd_same] at z; cases z
      · rw [upd_ne q] at z; exact g.ok.xd a fs h z
  sub := g.sub
  new := g.new
  ok0 := g.ok0
  ex := g.ex.mut h0
  sl := fun j s h => by
    cases s with
    | no => trivial
    | sh d =>
      obtain ⟨x, e2, r2⟩ := g.sl j _ h
      exact ⟨x, e2, by rw [sh_mut mp]; exact r2⟩
    | ow d =>
      obtain ⟨a, e2, m2, m3, r2⟩ := g.sl j _ h
      have hne : a ≠ p := fun z => by subst z; exact hs j (by rw [h]; rfl) e2
      exact ⟨a, e2, m2, m3, r2.imp (by rw [sh_mut mp]; exact .refl _) fun o ho => by rw [upd_ne hne]; exact ho⟩
  inj := g.inj
end VL

set_option maxRecDepth 100000
set_option maxHeartbeats 2000000
namespace VL
open PySem L2

theorem wipe_get (σ : L2.St) : ∀ (vs : List Nat) (j : Nat), (L2.wipe σ vs)[j]? = if j ∈ vs ∧ j < σ.length then some none else if j ∈ vs then none else σ[j]?
  | [], j => by simp [L2.wipe]
  | v :: vs, j => by
    show ((L2.wipe σ vs).set v none)[j]? = _
    by_cases e : j = v
    · subst e
      by_cases hl : j < σ.length
      · rw [List.getElem?_set_self (by rw [L2.wipe_length]; exact hl), if_pos ⟨List.mem_cons_self, hl⟩]
      · rw [List.getElem?_eq_none (by rw [List.length_set, L2.wipe_length]; omega), if_neg (fun q => hl q.2), if_pos List.mem_cons_self]
    · rw [List.getElem?_set_ne (Ne.symm e), wipe_get σ vs j]
      have : j ∈ v :: vs ↔ j ∈ vs := by simp [e]
      simp only [this]
theorem wipe_set {σ : L2.St} {vs : List Nat} {i : Nat} {x : Option V} (h : i ∈ vs) : L2.wipe (σ.set i x) vs = L2.wipe σ vs := by
  apply List.ext_getElem?
  intro j
  rw [wipe_get, wipe_get, List.length_set]
  by_cases e : j = i
  · subst e
    simp only [h, true_and, if_true]
  · rw [List.getElem?_set_ne (Ne.symm e)]
theorem wipe_wipe {σ : L2.St} {vs : List Nat} : L2.wipe (L2.wipe σ vs) vs = L2.wipe σ vs := by
  apply List.ext_getElem?
  intro j
  rw [wipe_get, wipe_get, L2.wipe_length]
  by_cases h : j ∈ vs
  · simp only [h, true_and, if_true]
  · simp only [h, false_and, if_false]
def VGc (vs : List Nat) (X : Cx) (tg : Expr) (γ : D → Env → Option Env) : Prop :=
  ∃ g : TG, PG X tg g ∧ ∀ (H0 : Hp) (M0 M : Addr → Bool) (H : Hp) (σ : L2.St) (env env' : Env) (d : D) (v : V) (Q : L2.St → Hp → Prop), Good (gm X) H0 M0 M H σ env → Rp (gm X) (Sh M (vw H)) d v → γ d env = some env' → (∀ σ', Good (gm X) H0 M0 M H σ' env' → L2.wipe σ' vs = L2.wipe σ vs → Q σ' H) → g v σ H Q
def VTs (X : Cx) (W : WX) (ifs : List Expr) (τ : Env → Res Bool) : Prop :=
  ∃ t : TT, PTs X ifs t ∧ ∀ (H0 : Hp) (M0 M : Addr → Bool) (H : Hp) (σ : L2.St) (env : Env) (Q : Bool → Hp → Prop), Good (gm X) H0 M0 M H σ env → PostT X W M σ H Q (τ env) → t σ H Q
def yesT (_ : Env) : Res Bool := .ok true
abbrev W0 : WX := fun _ _ _ _ => False
section
variable {X : Cx} {W : WX} {vs : List Nat} {e : Expr} {pos : Pos} {τ : Env → Res Bool}
theorem vgc_n (i : Nat) {x : Str} (hm : i ∈ vs) (hN : X.N.Nodup) (hi : X.N[i]? = some x := by rfl) (hx : Loc X.env.scope x := by first | exact Or.inl rfl | exact Or.inr rfl) (hf : X.fn x = true ∨ X.env.scope.names.lookup x = some .local := by first | exact .inl rfl | exact .inr rfl | assumption) :
    VGc vs X (.Name x pos) (gnG i) := ⟨_, pg_name hN hi hx hf, fun H0 M0 M H σ env env' d v Q g r e q => by cases e; exact q _ (g.set r) (wipe_set hm)⟩
theorem vts_nil : VTs X W [] yesT := ⟨_, pts_nil, fun H0 M0 M H σ env Q g h => h H (Ext.refl H)⟩
end
def compL (γ : D → Env → Option Env) (τ : Env → Res Bool) (φ : Env → Res D) (env : Env) : List D → List D → Res D
  | [], acc => .ok (.lst acc)
  | d :: ds, acc => match γ d env with
    | none => .bad
    | some env1 => match τ env1 with
      | .ok true => (match φ env1 with
        | .ok y => if acc.length < sizeLine then compL γ τ φ env ds (acc ++ [y]) else .bad
        | _ => .bad)
      | .ok false => compL γ τ φ env ds acc
      | _ => .bad
def lcE (vs : List Nat) (γ : D → Env → Option Env) (ι : Env → Res (List D)) (τ : Env → Res Bool) (φ : Env → Res D) (env : Env) : Res D := (ι env).bind fun ds => compL γ τ φ (wipeE env vs) ds []
def tGc (g : Gm) (vs : List Nat) (γ : D → Env → Option Env) : TG := fun v σ H Q => ∃ (H0 : Hp) (M0 M : Addr → Bool) (env env' : Env) (d : D), Good g H0 M0 M H σ env ∧ Rp g (Sh M (vw H)) d v ∧ γ d env = some env' ∧ ∀ σ', Good g H0 M0 M H σ' env' → L2.wipe σ' vs = L2.wipe σ vs → Q σ' H
section
variable {X : Cx} {W : WX} {tg iter elt : Expr} {ifs : List Expr} {scope : Scope} {own : List (Str × Nat)} {pos : Pos} {ι : Env → Res (List D)} {γ : D → Env → Option Env} {τ : Env → Res Bool} {φ : Env → Res D}
theorem lc_parts {own : List (Str × Nat)} (hg : ∀ (s : Shared) (H : Hp) (C : Addr) (cl : List (Str × Addr)) (fp : List Addr), VGc (own.map (·.2)) (X.blk s H scope (compEnvC scope cl C X.env) fp) tg γ)
    (ht : ∀ (s : Shared) (H : Hp) (C : Addr) (cl : List (Str × Addr)) (fp : List Addr), VTs (X.blk s H scope (compEnvC scope cl C X.env) fp) W0 ifs τ)
    (he : ∀ (s : Shared) (H : Hp) (C : Addr) (cl : List (Str × Addr)) (fp : List Addr), VE (X.blk s H scope (compEnvC scope cl C X.env) fp) W0 true elt φ) :
    (∀ (s : Shared) (H : Hp) (C : Addr) (cl : List (Str × Addr)) (fp : List Addr), PG (X.blk s H scope (compEnvC scope cl C X.env) fp) tg (tGc (gm X) (own.map (·.2)) γ)) ∧
    (∀ (s : Shared) (H : Hp) (C : Addr) (cl : List (Str × Addr)) (fp : List Addr), PTs (X.blk s H scope (compEnvC scope cl C X.env) fp) ifs (tVT (gm X) X W0 τ)) ∧
    ∀ (s : Shared) (H : Hp) (C : Addr) (cl : List (Str × Addr)) (fp : List Addr), PE (X.blk s H scope (compEnvC scope cl C X.env) fp) elt (tVE (gm X) X W0 true φ) := by
  refine ⟨fun s H C cl fp => ?_, fun s H C cl fp => ?_, fun s H C cl fp => ?_⟩
  · obtain ⟨g, p, r⟩ := hg s H C cl fp
    exact ⟨fun pins s1 σ1 H1 v u Q I rv ⟨H0, M0, M, env, env', d, g0, rp, e, k⟩ => p.run pins s1 σ1 H1 v u Q I rv (r H0 M0 M H1 σ1 env env' d v Q g0 rp e k)⟩
  · obtain ⟨g, p, r⟩ := ht s H C cl fp
    exact ⟨fun pins s1 σ1 H1 Q I ⟨H0, M0, M, env, g0, k⟩ => p.run pins s1 σ1 H1 Q I (r H0 M0 M H1 σ1 env Q g0 k)⟩
  · obtain ⟨g, p, r⟩ := he s H C cl fp
    exact ⟨fun pins s1 σ1 H1 Q I ⟨H0, M0, M, env, g0, k⟩ => p.run pins s1 σ1 H1 Q I (r H0 M0 M H1 σ1 env Q g0 k)⟩
theorem lc_read {wi : TI} (vs : List Nat) {H0 : Hp} {M0 M : Addr → Bool} {H : Hp} {σ : L2.St} {env : Env} {Q : VK} (ri : ∀ R : It → Hp → Prop, PostI X W H0 M σ H R (ι env) → wi σ H R) (g : Good (gm X) H0 M0 M H σ env) (h : PostN X W M σ H Q (lcE vs γ ι τ φ env)) :
    tLc wi (tGc (gm X) vs γ) (tVT (gm X) X W0 τ) (tVE (gm X) X W0 true φ) vs σ H Q := by
  refine ri _ ?_
  have h0 : PostN X W M σ H Q ((ι env).bind fun ds => compL γ τ φ (wipeE env vs) ds []) := h
  cases q : ι env with
  | bad => rw [q] at h0; exact h0
  | exc c fs => rw [q] at h0; exact h0
  | ok ds =>
    rw [q] at h0
    have h1 : PostN X W M σ H Q (compL γ τ φ (wipeE env vs) ds []) := h0
    clear h0 h
    intro J H1 e1 ok1 Dd hD
    have gw := (g.mono e1).wipe vs
    have hs0 : ∀ i : Nat, isOw (wipeE env vs)[i]? = true → (L2.wipe σ vs)[i]? ≠ some (some (V.ref Dd)) := fun i ho hr => by
      cases z : (wipeE env vs)[i]? with
      | none => rw [z] at ho; cases ho
      | some s =>
        rw [z] at ho
        cases s with
        | ow d =>
          obtain ⟨p, hp, mp, _⟩ := gw.sl i _ z
          rw [hr] at hp
          cases hp
          rw [(gw.nm hD).1] at mp; cases mp
        | no => cases ho
        | sh _ => cases ho
    refine ⟨fun i m Hc => m = ds.length - i ∧ ∃ (acc : List V) (accD : List D), Good (gm X) H0 M0 (addM M Dd) Hc (L2.wipe σ vs) (wipeE env vs) ∧ Hc Dd = some (.lst acc) ∧ RpL (gm X) (Sh (addM M Dd) (vw Hc)) accD acc ∧
      VEx (Sh M (vw H1)) (Sh (addM M Dd) (vw Hc)) ∧ Ext H1 Hc ∧ PostN X W M σ H Q (compL γ τ φ (wipeE env vs) (ds.drop i) accD), ⟨ds.length, rfl, [], [], gw.beside hD (Ext.new hD) upd_same, upd_same, .nil, sh_add (Ext.new hD) hD, Ext.new hD, h1⟩, ?_⟩
    rintro i m Hc ⟨rfl, acc, accD, gc, hx, rx, ve, ex, hp⟩
    obtain ⟨o1, o2⟩ := ok1 _ Hc gc.ok gc.ex ve i
    cases qd : ds[i]? with
    | none =>
      have hi : ds.length ≤ i := List.getElem?_eq_none_iff.mp qd
      rw [List.drop_of_length_le hi] at hp
      exact .inl ⟨o1 hi, hp Dd Hc (e1.fresh hD) (e1.trans ex) ⟨acc, hx, rx⟩⟩
    | some d =>
      obtain ⟨o3, o4⟩ := o2 d qd
      have hi : i < ds.length := (List.getElem?_eq_some_iff.mp qd).1
      have hdr : ds.drop i = d :: ds.drop (i + 1) := by
        rw [List.drop_eq_getElem_cons hi]
        rw [List.getElem?_eq_getElem hi] at qd
        cases qd; rfl
      rw [hdr] at hp
      unfold compL at hp
      refine .inr ⟨o3, fun Hc' => ∃ (acc : List V) (accD : List D), Good (gm X) H0 M0 (addM M Dd) Hc' (L2.wipe σ vs) (wipeE env vs) ∧ Hc' Dd = some (.lst acc) ∧ RpL (gm X) (Sh (addM M Dd) (vw Hc')) accD acc ∧
        VEx (Sh M (vw H1)) (Sh (addM M Dd) (vw Hc')) ∧ Ext H1 Hc' ∧ PostN X W M σ H Q (compL γ τ φ (wipeE env vs) (ds.drop (i + 1)) accD), fun Hc' w => ⟨ds.length - (i + 1), by omega, rfl, w⟩, fun x H2 y => ?_⟩
      obtain ⟨ey, ry⟩ := o4 x H2 y
      cases qg : γ d (wipeE env vs) with
      | none => rw [qg] at hp; exact hp.elim
      | some env1 =>
        rw [qg] at hp
        refine ⟨H0, M0, addM M Dd, _, env1, d, gc.mono ey, ry, qg, fun σ2 g2 w2 => ⟨by rw [w2, wipe_wipe], ?_⟩⟩
        refine ⟨H0, M0, addM M Dd, env1, g2, ?_⟩
        have hp2 : PostN X W M σ H Q (match τ env1 with
          | .ok true => (match φ env1 with
            | .ok y => if accD.length < sizeLine then compL γ τ φ (wipeE env vs) (ds.drop (i + 1)) (accD ++ [y]) else .bad
            | _ => .bad)
          | .ok false => compL γ τ φ (wipeE env vs) (ds.drop (i + 1)) accD
          | _ => .bad) := hp
        cases qt : τ env1 with
        | bad => rw [qt] at hp2; exact hp2.elim
        | exc c fs => rw [qt] at hp2; exact hp2.elim
        | ok b =>
          rw [qt] at hp2
          intro H3 e3
          cases b with
          | false =>
            rw [if_neg Bool.false_ne_true]
            exact ⟨acc, accD, (gc.mono ey).mono e3, e3 _ _ (ey _ _ hx), rx.mono (Sh_mono (ey.trans e3).v), ve.trans (Sh_mono (ey.trans e3).v), (ex.trans ey).trans e3, hp2⟩
          | true =>
            rw [if_pos rfl]
            refine ⟨H0, M0, addM M Dd, env1, g2.mono e3, ?_⟩
            have hp3 : PostN X W M σ H Q (match φ env1 with
              | .ok y => if accD.length < sizeLine then compL γ τ φ (wipeE env vs) (ds.drop (i + 1)) (accD ++ [y]) else .bad
              | _ => .bad) := hp2
            cases qf : φ env1 with
            | bad => rw [qf] at hp3; exact hp3.elim
            | exc c fs => rw [qf] at hp3; exact hp3.elim
            | ok yD =>
              rw [qf] at hp3
              intro v H4 e4 r4
              have hp4 : PostN X W M σ H Q (if accD.length < sizeLine then compL γ τ φ (wipeE env vs) (ds.drop (i + 1)) (accD ++ [yD]) else .bad) := hp3
              by_cases cz : accD.length < sizeLine
              · rw [if_pos cz] at hp4
                have e34 : Ext Hc H4 := (ey.trans e3).trans e4
                have gm4 := gc.mono e34
                have rx4 : RpL (gm X) (Sh (addM M Dd) (vw H4)) accD acc := rx.mono (Sh_mono e34.v)
                refine ⟨acc, e34 _ _ hx, by rw [← rx.length]; exact cz, acc ++ [v], accD ++ [yD], gm4.turn addM_self (g.h0 (e1.fresh hD)) hs0, upd_same, ?_, ?_, ?_, hp4⟩
                · rw [sh_mut addM_self]; exact rx4.append (.cons r4 .nil)
                · rw [sh_mut addM_self]; exact ve.trans (Sh_mono e34.v)
                · exact (ex.trans e34).mut hD
              · rw [if_neg cz] at hp4; exact hp4.elim
theorem vf_lc (hc : X.calm = true) (hN : X.N.Nodup) (hi : VI X W tg iter ι) (ok : BlkOk X.N X.env.scope scope own)
    (hg : ∀ (s : Shared) (H : Hp) (C : Addr) (cl : List (Str × Addr)) (fp : List Addr), VGc (own.map (·.2)) (X.blk s H scope (compEnvC scope cl C X.env) fp) tg γ)
    (ht : ∀ (s : Shared) (H : Hp) (C : Addr) (cl : List (Str × Addr)) (fp : List Addr), VTs (X.blk s H scope (compEnvC scope cl C X.env) fp) W0 ifs τ)
    (he : ∀ (s : Shared) (H : Hp) (C : Addr) (cl : List (Str × Addr)) (fp : List Addr), VE (X.blk s H scope (compEnvC scope cl C X.env) fp) W0 true elt φ)
    (hs : ∀ x, foldedSetIterable iter X.env x = pure x := by intro _; rfl) : VF X W (.ListComp elt [⟨tg, iter, ifs, 0⟩] scope pos) (lcE (own.map (·.2)) γ ι τ φ) := by
  obtain ⟨wi, pi, ri⟩ := hi
  obtain ⟨pg, pt, pe⟩ := lc_parts hg ht he
  exact ⟨_, pe_lc hc hN pi ok pg pt pe hs, fun H0 M0 M H σ env Q g h => lc_read _ (fun R => ri H0 M0 M H σ env R g) g h⟩
def strsOf : List D → Option (List Str)
  | [] => some []
  | .str s :: r => (strsOf r).map fun l => s :: l
  | _ :: _ => none
def joinS (a : Str) (ds : List D) : Res D := match strsOf ds with
  | some ys => if (ys.map (·.length)).sum + ys.length * a.length ≤ 16777216 then .ok (.str (Txt.join a ys)) else .bad
  | none => .bad
def joinD (a : Str) : D → Res D
  | .lst ds => joinS a ds
  | .tup ds => joinS a ds
  | _ => .bad
def strE (f : Str → D → Res D) (φa φb : Env → Res D) (env : Env) : Res D := (φa env).bind fun d => match d with
  | .str a => (φb env).bind (f a)
  | _ => .bad
theorem strsOf_rp {mg : Gm} {G : Vw} : ∀ {ds : List D} {xs : List V} {ys : List Str}, RpL mg G ds xs → strsOf ds = some ys → xs = ys.map V.str
  | [], _, _, .nil, h => by cases h; rfl
  | d :: ds, _, ys, .cons r t, h => by
    cases d <;> first | (cases h; done) | skip
    rename_i s
    have h' : (strsOf ds).map (fun l => s :: l) = some ys := h
    cases q : strsOf ds with
    | none => rw [q] at h'; cases h'
    | some l =>
      rw [q] at h'
      cases h'
      cases r
      rw [strsOf_rp t q]
      rfl
end
section
variable {X : Cx} {W : WX} {fl fla flb : Bool} {o e : Expr} {apos pos : Pos} {φa φb : Env → Res D}
theorem ve_join (ha : VE X W fla o φa) (hb : VE X W flb e φb) (hs : starEach [e] X.env = [(false, eval e X.env)] := by rfl) (hbase : attributeBase o "join" X.env (eval o X.env) = eval o X.env := by rfl) (hline : (apos.endLine == pos.line) = true := by rfl) :
    VE X W fl (.Call (.Attribute o "join" apos) [e] [] pos) (strE joinD φa φb) := by
  obtain ⟨ta, pa, ra⟩ := ha
  obtain ⟨tb, pb, rb⟩ := hb
  refine ⟨_, pe_join pa pb hs hbase hline, fun H0 M0 M H σ env Q g h => ?_⟩
  refine ra H0 M0 M H σ env _ g (PostE.seq h fun d v H1 e1 r1 h1 => ?_)
  cases r1 <;> first | exact h1.elim | skip
  case str a =>
    refine ⟨⟨a, rfl⟩, rb H0 M0 M H1 σ env _ (g.mono e1) (PostE.seq h1 fun d2 v2 H2 e2 r2 h2 => ?_)⟩
    have r2' := r2.mono (vis_le flb M _)
    have go : ∀ {ds : List D} {xs : List V} {p : Addr}, RpL (gm X) (vw H2) ds xs → (SqL X.K H2 p xs ∨ SqT X.K H2 p xs) → PostE X W fl M σ H2 Q (joinS a ds) → ∃ a' p' , ∃ ys : List Str, V.str a = .str a' ∧ [V.ref p] = [.ref p'] ∧ (SqL X.K H2 p' (ys.map V.str) ∨ SqT X.K H2 p' (ys.map V.str)) ∧
        (ys.map (·.length)).sum + ys.length * a'.length ≤ 16777216 ∧ Q (.str (Txt.join a' ys)) H2 := fun {ds xs p} rp sq h3 => by
      unfold joinS at h3
      cases q : strsOf ds with
      | none => rw [q] at h3; exact h3.elim
      | some ys =>
        rw [q] at h3
        obtain ⟨hz, h3⟩ := PostE.ite h3
        have ex := strsOf_rp rp q
        subst ex
        exact ⟨a, p, ys, rfl, rfl, sq, hz, h3 _ H2 (Ext.refl _) (.str _)⟩
    cases r2' <;> first | exact h2.elim | skip
    case tup p xs ds hp rp => exact go rp (.inr (.inl (.inl (vw_tup hp)))) h2
    case lst p xs ds hp rp => exact go rp (.inl (.inl (vw_lst hp))) h2
end
end VL

set_option maxRecDepth 100000
set_option maxHeartbeats 2000000
namespace VL
open PySem L2

theorem ru1 {k : Nat} {A : Around} (r : Room k A) : A.units + 1 < cLine := by have := r.un; omega
theorem tkW0 {X : Cx} : L2N.Takes X (fun _ _ _ _ => False) := fun _ _ ⟨_, _, _, _, _, _, _, _, _, _, _, _, _, _, _, _, w⟩ => w.elim
theorem la_nil : ∀ (env : Env) (ds : List D), nilA env = .ok ds → ds.length = 0 := fun _ _ h => by cases h; rfl
theorem la_cons {n : Nat} {φ : Env → Res D} {φs : Env → Res (List D)} (h : ∀ env ds, φs env = .ok ds → ds.length = n) : ∀ (env : Env) (ds : List D), consA φ φs env = .ok ds → ds.length = n + 1 := fun env ds e => by
  unfold consA at e
  cases q : φ env with
  | ok d =>
    rw [q] at e
    have e' : (φs env).bind (fun ds => Res.ok (d :: ds)) = .ok ds := e
    cases z : φs env with
    | ok ds' =>
      rw [z] at e'
      cases e'
      rw [List.length_cons, h env ds' z]
    | exc c fs => rw [z] at e'; cases e'
    | bad => rw [z] at e'; cases e'
  | exc c fs => rw [q] at e; cases e
  | bad => rw [q] at e; cases e
structure Raw (K : PySem.W.Frag) (mg : Str → Option Value) (x : Str) (st : Stmt) (ps : List Str) : Prop where
  ex : ∃ (f : Addr) (fd : FuncData), mg x = some (.ref f) ∧ Fun K x x st f fd ∧ Binds K fd ps []
structure DefOk (P : Program) (w : World) (K : PySem.W.Frag) (mg : Str → Option Value) (base : Heap) (x : Str) (k : Nat) (ps : List Str) (n : Nat) (F : List D → Res D) : Prop where
  ex : ∃ (f : Addr) (fd : FuncData), mg x = some (.ref f) ∧ PySem.W.keepIn K (.ref f) = true ∧ Binds K fd ps [] ∧ FnOk P w K mg base (L2N.CX P w) k f fd ps (spV ⟨P, w, K, mg⟩ n F)
  lk : ∀ f fd, mg x = some (.ref f) → (∃ oc od osl, K.lookup f = some ⟨oc, od, .func fd, osl⟩) → FnOk P w K mg base (L2N.CX P w) k f fd ps (spV ⟨P, w, K, mg⟩ n F)
section
variable {P : Program} {w : World} {K : PySem.W.Frag} {mg : Str → Option Value} {base : Heap} {x qual : Str} {st : Stmt} {N ps : List Str} {k n : Nat} {ψ : Env → SRes} {F G : List D → Res D}
theorem def_v (N : List Str) (ψ : Env → SRes) (R : Raw K mg x st ps) (S : FnScope N ps (defScope st)) (hn : ps.length = n) (hF : F = defM N.length ψ)
    (body : ∀ (f : Addr) (cdv : Value) (A : Around) (outer : List PySem.Env) (s : Shared) (H : Hp) (E : XK), Room k (A.deeper (PyProof.Rows.envOfC x (defScope st) s.heap.objs.size f cdv)) →
      L2N.Takes (cxOf (L2N.CX P w) P w K mg base N x (defScope st) f cdv A outer s H E) (WB E) →
      PassesOwn (model P w) (A.deeper (PyProof.Rows.envOfC x (defScope st) s.heap.objs.size f cdv)) (PyProof.Rows.envOfC x (defScope st) s.heap.objs.size f cdv) (cxOf (L2N.CX P w) P w K mg base N x (defScope st) f cdv A outer s H E).xe →
      VB (cxOf (L2N.CX P w) P w K mg base N x (defScope st) f cdv A outer s H E) (WB E) (defBody st) ψ) :
    DefOk P w K mg base x (k + 1) ps n F := by
  subst hF
  obtain ⟨f, fd, h1, h2, h3⟩ := R.ex
  refine ⟨⟨f, fd, h1, h2.kp, h3, fn_v h2 S hn (body f)⟩, fun f' fd' e h => ?_⟩
  rw [h1] at e
  cases e
  obtain ⟨_, _, _, h⟩ := h
  obtain ⟨_, _, _, _, _, _, _, _, _, _, h', _⟩ := h2.ex
  rw [h'] at h
  cases h
  exact fn_v h2 S hn (body f)
theorem DefOk.is (h : DefOk P w K mg base x k ps n F) (e : ∀ ds, G ds ≠ .bad → F ds = G ds) : DefOk P w K mg base x k ps n G := by
  obtain ⟨f, fd, h1, h2, h3, h4⟩ := h.ex
  exact ⟨⟨f, fd, h1, h2, h3, fn_is h4 e⟩, fun f fd e1 e2 => fn_is (h.lk f fd e1 e2) e⟩
variable {X : Cx} {W : WX} {fl : Bool} {e : Expr} {es : List Expr} {pos p : Pos} {φs : Env → Res (List D)}
theorem ve_def (h : DefOk X.prog X.w X.K X.mg X.base x k ps n F) (tk : L2N.Takes X W) (hr : Room k X.A) (ha : VA X W true (e :: es) φs) (hn : (e :: es).length = n) (hl : ∀ env ds, φs env = .ok ds → ds.length = n) (hg : Gl X x := by rfl) (hdb : (x == ("__debug__" : Str)) = false := by decide)
    (he : starEach (e :: es) X.env = (false, eval e X.env) :: starEach es X.env := by rfl) (hpl : (backTo pos (starEach es X.env)).any (·.1) = false := by rfl) : VE X W fl (.Call (.Name x p) (e :: es) [] pos) (aE F φs) := by
  obtain ⟨f, fd, h1, h2, h3, h4⟩ := h.ex
  exact ve_call tk h4 hr h1 h2 h3 ha hn hl hg hdb he hpl
end
theorem raw_mk {K : PySem.W.Frag} {h : Heap} {mg : Str → Option Value} {x : Str} {st : Stmt} {ps : List Str} {f : Addr} {oc : Value} {od an : Option Addr} {osl : Array (Option Value)} {kV doc pm cdv ct : Value} (X : K.In h) (G : h.Ns mainGlobals mg)
    (a : PySem.W.nsIn K mainGlobals x = some (some (.ref f))) (l : K.lookup f = some ⟨oc, od, .func (PySem.W.fnOf x x (defArgs st) (defBody st) (defScope st) .none kV doc pm an cdv ct), osl⟩) (c : PySem.W.codeIn K cdv x = true) (k : PySem.W.keepIn K (.ref f) = true)
    (hb : ∀ (kV doc pm : Value) (an : Option Addr) (cdv ct : Value) (us : List Value), us.length = ps.length → bindArgs (PySem.W.fnOf x x (defArgs st) (defBody st) (defScope st) .none kV doc pm an cdv ct) ⟨us, []⟩ = pure (ps.zip us)) : Raw K mg x st ps := by
  have F := fun_mk (st := st) l c k
  exact ⟨f, _, PySem.W.mg_of X G a, F, F.binds hb⟩
def spEnd (K : PySem.W.Frag) : Sp := fun vs H Q _ => ∃ (a : Addr) (ns : List Int), vs = [.ref a] ∧ SqL K H a (ns.map V.int) ∧ ns.length ≤ 63 ∧ (∀ z ∈ ns, Builtin.Int.intBits z ≤ 1048576) ∧ ∀ H', Q (.bl true) H'
theorem rd_vw {H : Hp} {a : Addr} {xs : List V} (h : Rd H a (.lst xs)) : vw H a = some (.lst xs) := by
  rcases h with h | ⟨o, h⟩
  · exact vw_of h trivial
  · unfold vw; rw [h]
theorem end_of {P : Program} {w : World} {K : PySem.W.Frag} {mg : Str → Option Value} {base : Heap} {CX : CXT} {f : Addr} {fd : FuncData} {ps : List Str} {k : Nat} {F : List D → Res D} (h : FnOk P w K mg base CX k f fd ps (spV ⟨P, w, K, mg⟩ 1 F))
    (e : ∀ ns : List Int, ns.length ≤ 63 → (∀ z ∈ ns, Builtin.Int.intBits z ≤ 1048576) → F [.scr ns] = .ok (.bl true)) : FnOk P w K mg base CX k f fd ps (spEnd K) := h.imp fun vs H Q E s => by
  obtain ⟨a, ns, rfl, hs, hl, hb, q⟩ := s
  refine ⟨rfl, fun _ => false, [.scr ns], MOk.empty, .cons (.scr ?_) .nil, ?_⟩
  · rcases hs with hs | hs
    · exact .inl (by rw [Sh_of rfl]; exact rd_vw hs)
    · exact .inr hs
  · rw [e ns hl hb]
    intro v H' _ r
    cases r
    exact q H'
theorem cx_end (P : Program) (w : World) (H : Hp) (s : Shared) (e : Value) (s' : Shared) (h : L2N.CX P w [] H s (fun _ _ _ => False) e s') : False := by
  obtain ⟨_, _, _, _, _, _, _, _, _, _, _, _, z⟩ := h
  exact z
end VL
namespace VL
open PySem L2
theorem law_fin {P : Program} {w : World} {K : PySem.W.Frag} {mg : Str → Option Value} {base : Heap} {x : Str} {ps : List Str} {k : Nat} {F : List D → Res D} {fa f : Addr} {fd : FuncData} {oc : Value} {od : Option Addr} {sl : Array (Option Value)}
    (h : DefOk P w K mg base x k ps 1 F) (hfa : mg x = some (.ref fa)) (hf : mg x = some (.ref f)) (l : K.lookup f = some ⟨oc, od, .func fd, sl⟩) (e : ∀ ns : List Int, ns.length ≤ 63 → (∀ z ∈ ns, Builtin.Int.intBits z ≤ 1048576) → F [.scr ns] = .ok (.bl true)) :
    FnOk P w K mg base (L2N.CX P w) k fa fd ps (spEnd K) := by
  rw [hfa] at hf
  cases hf
  exact end_of (h.lk _ _ hfa ⟨_, _, _, l⟩) e
end VL

set_option maxRecDepth 100000
set_option maxHeartbeats 2000000
namespace VL
open PySem L2
structure Post where
  nx : Env → Prop := fun _ => False
  ct : Env → Prop := fun _ => False
  bk : Env → Prop := fun _ => False
  rt : D → Prop := fun _ => False
  xc : Str → List (Str × D) → Env → Prop := fun _ _ _ => False
  ro : D → Prop := fun _ => False
def Sat (P : Post) : SRes → Prop
  | .nx e => P.nx e | .ct e => P.ct e | .bk e => P.bk e | .rt d => P.rt d | .xc c f e => P.xc c f e | .bad => False | .ro d => P.ro d
theorem Sat.mono {P Q : Post} {r : SRes} (h : Sat P r) (h1 : ∀ e, P.nx e → Q.nx e) (h2 : ∀ e, P.ct e → Q.ct e) (h3 : ∀ e, P.bk e → Q.bk e) (h4 : ∀ e, P.rt e → Q.rt e) (h5 : ∀ c f e, P.xc c f e → Q.xc c f e) (h6 : ∀ d, P.ro d → Q.ro d) : Sat Q r := by
  cases r with
  | nx e => exact h1 e h
  | ct e => exact h2 e h
  | bk e => exact h3 e h
  | rt d => exact h4 d h
  | xc c f e => exact h5 c f e h
  | bad => exact h
  | ro d => exact h6 d h
def Post.thn (P : Post) (χ : Env → SRes) : Post := { P with nx := fun e => Sat P (χ e) }
def Post.lp (P : Post) (I : Env → Prop) : Post := { P with nx := I, ct := I, bk := P.nx }
def rSeq (r : SRes) (χ : Env → SRes) : SRes := match r with
  | .nx env => χ env
  | r => r
theorem seq_eq (ψ χ : Env → SRes) (env : Env) : seqS ψ χ env = rSeq (ψ env) χ := rfl
theorem Sat.rseq {P : Post} {r : SRes} {χ : Env → SRes} (h : Sat (P.thn χ) r) : Sat P (rSeq r χ) := by
  unfold rSeq
  cases r <;> exact h
theorem Sat.seq {P : Post} {ψ χ : Env → SRes} {env : Env} (h : Sat (P.thn χ) (ψ env)) : Sat P (seqS ψ χ env) := Sat.rseq h
theorem Sat.flow {P : Post} {r : SRes} {k : Env → SRes} (h : Sat { P with nx := fun e => Sat P (k e), ct := fun e => Sat P (k e), bk := P.nx } r) : Sat P (flowL r k) := by
  unfold flowL
  cases r <;> exact h
theorem Sat.forL' {P : Post} {γ : D → Env → Option Env} {ψ : Env → SRes} (I : Nat → Env → Prop) : ∀ (ds : List D) (k : Nat) (env : Env), I k env →
    (∀ i d env, ds[i]? = some d → I (k + i) env → ∃ e1, γ d env = some e1 ∧ Sat (P.lp (I (k + i + 1))) (ψ e1)) → (∀ env, I (k + ds.length) env → P.nx env) → Sat P (VL.forL γ ψ ds env)
  | [], k, env, h0, _, hn => hn env h0
  | d :: ds, k, env, h0, hs, hn => by
    obtain ⟨e1, g1, s1⟩ := hs 0 d env rfl h0
    unfold VL.forL
    rw [g1]
    refine Sat.flow (s1.mono ?_ ?_ (fun _ h => h) (fun _ h => h) (fun _ _ _ h => h) (fun _ h => h))
    all_goals
      intro e he
      refine Sat.forL' I ds (k + 1) e he (fun i d env q h => ?_) (fun env h => hn env ?_)
      · have := hs (i + 1) d env (by rw [gs_]; exact q) (by rw [show k + (i + 1) = k + 1 + i by omega]; exact h)
        rw [show k + (i + 1) = k + 1 + i by omega] at this
        exact this
      · rw [List.length_cons, show k + (ds.length + 1) = k + 1 + ds.length by omega]; exact h
theorem Sat.forS {P : Post} {γ : D → Env → Option Env} {ι : Env → Res (List D)} {ψ : Env → SRes} {env : Env} (I : Nat → Env → Prop) {ds : List D} (hi : ι env = .ok ds) (h0 : I 0 env)
    (hs : ∀ i d env, ds[i]? = some d → I i env → ∃ e1, γ d env = some e1 ∧ Sat (P.lp (I (i + 1))) (ψ e1)) (hn : ∀ env, I ds.length env → P.nx env) : Sat P (VL.forS γ ι ψ env) := by
  unfold VL.forS ofA
  rw [hi]
  refine Sat.forL' I ds 0 env h0 (fun i d env q h => ?_) (fun env h => hn env (by rwa [Nat.zero_add] at h))
  rw [Nat.zero_add] at h ⊢
  exact hs i d env q h
theorem Sat.forS0 {P : Post} {γ : D → Env → Option Env} {ι : Env → Res (List D)} {ψ : Env → SRes} {env : Env} (I : Env → Prop) {ds : List D} (hi : ι env = .ok ds) (h0 : I env)
    (hs : ∀ d, d ∈ ds → ∀ env, I env → ∃ e1, γ d env = some e1 ∧ Sat (P.lp I) (ψ e1)) (hn : ∀ env, I env → P.nx env) : Sat P (VL.forS γ ι ψ env) :=
  Sat.forS (fun _ => I) hi h0 (fun i d env q h => hs d (List.mem_of_getElem? q) env h) hn
theorem m_ok {n : Nat} {b : Env → SRes} {ds : List D} {d : D} (h : Sat { rt := fun x => x = d } (b (env0 n ds))) : defM n b ds = .ok d := by
  unfold defM
  cases q : b (env0 n ds) <;> rw [q] at h <;> first | exact h.elim | skip
  show outS (.rt _) = _
  rw [show _ = d from h]
  rfl
theorem m_ex {n : Nat} {b : Env → SRes} {ds : List D} {p : D → Prop} (h : Sat { rt := p } (b (env0 n ds))) : ∃ d, defM n b ds = .ok d ∧ p d := by
  unfold defM
  cases q : b (env0 n ds) <;> rw [q] at h <;> first | exact h.elim | skip
  exact ⟨_, rfl, h⟩
theorem Sat.nx {P : Post} {r : SRes} {e : Env} (h : r = .nx e) (p : P.nx e) : Sat P r := by rw [h]; exact p
theorem Sat.rt {P : Post} {r : SRes} {e : D} (h : r = .rt e) (p : P.rt e) : Sat P r := by rw [h]; exact p
def r2 (f : D → D → Res D) (a b : Res D) : Res D := a.bind fun x => b.bind fun y => f x y
def r1 {α β : Type} (f : α → Res β) (a : Res α) : Res β := a.bind f
def rC (a : Res D) (b : Res (List D)) : Res (List D) := a.bind fun x => b.bind fun y => .ok (x :: y)
def rAnd (a b : Res Bool) : Res Bool := a.bind fun x => if x = true then b else .ok false
def rOr (a b : Res Bool) : Res Bool := a.bind fun x => if x = true then .ok true else b
def rNot (a : Res Bool) : Res Bool := a.bind fun x => .ok (!x)
def rAndE (a b : Res D) : Res D := a.bind fun d => match d with
  | .bl true => b
  | .bl false => .ok (.bl false)
  | _ => .bad
def rOrE (a b : Res D) : Res D := a.bind fun d => match d with
  | .bl true => .ok (.bl true)
  | .bl false => b
  | _ => .bad
def rIfE (t : Res Bool) (a b : Res D) : Res D := t.bind fun x => if x = true then a else b
def rSl (a : Res D) (l h : Res (Option Int)) : Res D := a.bind fun d => l.bind fun l => h.bind fun u => sliceD d l u
def rCh (f f' : D → D → Res D) (a b c : Res D) : Res D := a.bind fun x => b.bind fun y => (f x y).bind fun z => match z with
  | .bl true => c.bind fun w => f' y w
  | .bl false => .ok (.bl false)
  | _ => .bad
def rStr (f : Str → D → Res D) (a b : Res D) : Res D := a.bind fun d => match d with
  | .str a => b.bind (f a)
  | _ => .bad
def rImm (a : Res D) : Res D := a.bind fun d => if immut d = true then .ok d else .bad
def rSet (i : Nat) (r : Res D) (env : Env) : SRes := ofE r env fun d => .nx (env.set i (.sh d))
def rOwn (i : Nat) (r : Res D) (env : Env) : SRes := ofE r env fun d => .nx (env.set i (.ow d))
def rRet (r : Res D) (env : Env) : SRes := ofE r env fun d => .rt d
def rDrop (r : Res D) (env : Env) : SRes := ofE r env fun _ => .nx env
def rIf (t : Res Bool) (ψ χ : Env → SRes) (env : Env) : SRes := ofT t env fun k => if k = true then ψ env else χ env
def rAsg (γ : D → Env → Option Env) (r : Res D) (env : Env) : SRes := ofE r env fun d => match γ d env with
  | some env' => .nx env'
  | none => .bad
def rApp (i : Nat) (s : Option Sl) (r : Res D) (env : Env) : SRes := match s with
  | some (.ow (.lst ds)) => ofE r env fun d => if ds.length < sizeLine then .nx (env.set i (.ow (.lst (ds ++ [d])))) else .bad
  | _ => .bad
def rGet (s : Option Sl) : Res D := match s with
  | some (.sh d) => .ok d
  | _ => .bad
def rGetB (s : Option Sl) : Res D := match s with
  | some (.sh d) => .ok d
  | some (.ow d) => .ok d
  | _ => .bad
section
variable {f f' : D → D → Res D} {φ φa φb φc : Env → Res D} {φs : Env → Res (List D)} {τ τ' : Env → Res Bool} {env : Env} {i : Nat} {d e w : D} {ds : List D} {b c : Bool} {ψ χ : Env → SRes} {γ : D → Env → Option Env}
theorem getP_eq : getP i env = rGet env[i]? := rfl
theorem getB_eq : getB i env = rGetB env[i]? := rfl
theorem rGet_ok : rGet (some (.sh d)) = .ok d := rfl
theorem rGetB_ok : rGetB (some (.sh d)) = .ok d := rfl
theorem rGetB_ow : rGetB (some (.ow d)) = .ok d := rfl
theorem cE_eq : cE d env = .ok d := rfl
theorem op2_eq : op2 f φa φb env = r2 f (φa env) (φb env) := rfl
theorem r2_ok : r2 f (.ok d) (.ok e) = f d e := rfl
theorem aE_eq {g : List D → Res D} : aE g φs env = r1 g (φs env) := rfl
theorem aI_eq {g : List D → Res (List D)} : aI g φs env = r1 g (φs env) := rfl
theorem iE_eq : iE φ env = r1 itemsD (φ env) := rfl
theorem tE_eq : tE φ env = r1 toB (φ env) := rfl
theorem someO_eq : someO φ env = r1 toI (φ env) := rfl
theorem notE_eq : notE φ env = r1 notD (φ env) := rfl
theorem isTE_eq {T : String} : isTE T φ env = r1 (isT T) (φ env) := rfl
theorem r1_ok {α β : Type} {g : α → Res β} {a : α} : r1 g (.ok a) = g a := rfl
theorem toB_ok : toB (.bl b) = .ok b := rfl
theorem toI_ok {k : Int} : toI (.int k) = .ok (some k) := rfl
theorem notD_ok : notD (.bl b) = .ok (.bl (!b)) := rfl
theorem noO_eq : noO env = .ok none := rfl
theorem nilA_eq : nilA env = .ok [] := rfl
theorem consA_eq : consA φ φs env = rC (φ env) (φs env) := rfl
theorem rC_ok : rC (.ok d) (.ok ds) = .ok (d :: ds) := rfl
theorem andT_eq : andT τ τ' env = rAnd (τ env) (τ' env) := rfl
theorem orT_eq : orT τ τ' env = rOr (τ env) (τ' env) := rfl
theorem notT_eq : notT τ env = rNot (τ env) := rfl
theorem rAnd_t {r : Res Bool} : rAnd (.ok true) r = r := rfl
theorem rAnd_f {r : Res Bool} : rAnd (.ok false) r = .ok false := rfl
theorem rAnd_ok : rAnd (.ok b) (.ok c) = .ok (b && c) := by cases b <;> rfl
theorem rOr_t {r : Res Bool} : rOr (.ok true) r = .ok true := rfl
theorem rOr_f {r : Res Bool} : rOr (.ok false) r = r := rfl
theorem rOr_ok : rOr (.ok b) (.ok c) = .ok (b || c) := by cases b <;> rfl
theorem rNot_ok : rNot (.ok b) = .ok (!b) := rfl
theorem andE_eq : andE φa φb env = rAndE (φa env) (φb env) := rfl
theorem orE_eq : orE φa φb env = rOrE (φa env) (φb env) := rfl
theorem rAndE_t {r : Res D} : rAndE (.ok (.bl true)) r = r := rfl
theorem rAndE_f {r : Res D} : rAndE (.ok (.bl false)) r = .ok (.bl false) := rfl
theorem rAndE_ok : rAndE (.ok (.bl b)) (.ok (.bl c)) = .ok (.bl (b && c)) := by cases b <;> rfl
theorem rOrE_t {r : Res D} : rOrE (.ok (.bl true)) r = .ok (.bl true) := rfl
theorem rOrE_f {r : Res D} : rOrE (.ok (.bl false)) r = r := rfl
theorem rOrE_ok : rOrE (.ok (.bl b)) (.ok (.bl c)) = .ok (.bl (b || c)) := by cases b <;> rfl
theorem ifE_eq : ifE τ φa φb env = rIfE (τ env) (φa env) (φb env) := rfl
theorem rIfE_ok {r r' : Res D} : rIfE (.ok b) r r' = if b = true then r else r' := rfl
theorem slE_eq {ml mh : Env → Res (Option Int)} : slE φ ml mh env = rSl (φ env) (ml env) (mh env) := rfl
theorem rSl_ok {l h : Option Int} : rSl (.ok d) (.ok l) (.ok h) = sliceD d l h := rfl
theorem chE_eq : chE f f' φa φb φc env = rCh f f' (φa env) (φb env) (φc env) := rfl
theorem rCh_ok (h : f d e = .ok (.bl b)) (h' : f' e w = .ok (.bl c)) : rCh f f' (.ok d) (.ok e) (.ok w) = .ok (.bl (b && c)) := by
  show ((f d e).bind _) = _
  rw [h]
  cases b
  · rfl
  · exact h'
theorem rCh_le {i j k : Int} : rCh leD leD (.ok (.int i)) (.ok (.int j)) (.ok (.int k)) = .ok (.bl (decide (i ≤ j) && decide (j ≤ k))) := rCh_ok rfl rfl
theorem rCh_lelt {i j k : Int} : rCh leD ltD (.ok (.int i)) (.ok (.int j)) (.ok (.int k)) = .ok (.bl (decide (i ≤ j) && decide (j < k))) := rCh_ok rfl rfl
theorem rCh_ltlt {i j k : Int} : rCh ltD ltD (.ok (.int i)) (.ok (.int j)) (.ok (.int k)) = .ok (.bl (decide (i < j) && decide (j < k))) := rCh_ok rfl rfl
theorem rCh_ltle {i j k : Int} : rCh ltD leD (.ok (.int i)) (.ok (.int j)) (.ok (.int k)) = .ok (.bl (decide (i < j) && decide (j ≤ k))) := rCh_ok rfl rfl
theorem strE_eq {g : Str → D → Res D} : strE g φa φb env = rStr g (φa env) (φb env) := rfl
theorem rStr_ok {g : Str → D → Res D} {s : Str} : rStr g (.ok (.str s)) (.ok d) = g s d := rfl
theorem immE_eq : immE φ env = rImm (φ env) := rfl
theorem rImm_ok : rImm (.ok d) = if immut d = true then .ok d else .bad := rfl
theorem rSeq_nx : rSeq (.nx env) χ = χ env := rfl
theorem rSeq_rt : rSeq (.rt d) χ = .rt d := rfl
theorem rSeq_bk : rSeq (.bk env) χ = .bk env := rfl
theorem rSeq_ct : rSeq (.ct env) χ = .ct env := rfl
theorem rSeq_xc {C : Str} {fs : List (Str × D)} : rSeq (.xc C fs env) χ = .xc C fs env := rfl
theorem setS_eq : setS i φ env = rSet i (φ env) env := rfl
theorem rSet_ok : rSet i (.ok d) env = .nx (env.set i (.sh d)) := rfl
theorem ownS_eq : ownS i φ env = rOwn i (φ env) env := rfl
theorem rOwn_ok : rOwn i (.ok d) env = .nx (env.set i (.ow d)) := rfl
theorem retS_eq : retS φ env = rRet (φ env) env := rfl
theorem rRet_ok : rRet (.ok d) env = .rt d := rfl
theorem retNS_eq : retNS env = .rt .non := rfl
theorem nxS_eq : nxS env = .nx env := rfl
theorem bkS_eq : bkS env = .bk env := rfl
theorem ctS_eq : ctS env = .ct env := rfl
theorem dropS_eq : dropS φ env = rDrop (φ env) env := rfl
theorem rDrop_ok : rDrop (.ok d) env = .nx env := rfl
theorem ifS_eq : ifS τ ψ χ env = rIf (τ env) ψ χ env := rfl
theorem rIf_t : rIf (.ok true) ψ χ env = ψ env := rfl
theorem rIf_f : rIf (.ok false) ψ χ env = χ env := rfl
theorem Sat.ifb {P : Post} (h1 : b = true → Sat P (ψ env)) (h2 : b = false → Sat P (χ env)) : Sat P (rIf (.ok b) ψ χ env) := by
  cases b
  · exact h2 rfl
  · exact h1 rfl
theorem Sat.ifP {P : Post} {p : Prop} [Decidable p] (h1 : p → Sat P (ψ env)) (h2 : ¬p → Sat P (χ env)) : Sat P (rIf (.ok (decide p)) ψ χ env) :=
  Sat.ifb (fun h => h1 (of_decide_eq_true h)) (fun h => h2 (of_decide_eq_false h))
theorem asgS_eq : asgS γ φ env = rAsg γ (φ env) env := rfl
theorem appS_eq : appS i φ env = rApp i env[i]? (φ env) env := by
  unfold appS rApp
  rfl
theorem rApp_ok : rApp i (some (.ow (.lst ds))) (.ok d) env = if ds.length < sizeLine then .nx (env.set i (.ow (.lst (ds ++ [d])))) else .bad := rfl
theorem giveS_eq : giveS i ψ env = ψ (VL.give i env) := rfl
theorem gnG_eq : gnG i d env = some (env.set i (.sh d)) := rfl
theorem Sat_nx {P : Post} : Sat P (.nx env) = P.nx env := rfl
theorem Sat_rt {P : Post} : Sat P (.rt d) = P.rt d := rfl
theorem Sat_ct {P : Post} : Sat P (.ct env) = P.ct env := rfl
theorem Sat_bk {P : Post} : Sat P (.bk env) = P.bk env := rfl
theorem Sat_xc {P : Post} {C : Str} {fs : List (Str × D)} : Sat P (.xc C fs env) = P.xc C fs env := rfl
theorem thn_nx {P : Post} : (P.thn χ).nx env = Sat P (χ env) := rfl
theorem thn_rt {P : Post} : (P.thn χ).rt d = P.rt d := rfl
theorem thn_ct {P : Post} : (P.thn χ).ct env = P.ct env := rfl
theorem thn_bk {P : Post} : (P.thn χ).bk env = P.bk env := rfl
theorem thn_xc {P : Post} {C : Str} {fs : List (Str × D)} : (P.thn χ).xc C fs env = P.xc C fs env := rfl
theorem lp_nx {P : Post} {I : Env → Prop} : (P.lp I).nx env = I env := rfl
theorem lp_ct {P : Post} {I : Env → Prop} : (P.lp I).ct env = I env := rfl
theorem lp_bk {P : Post} {I : Env → Prop} : (P.lp I).bk env = P.nx env := rfl
theorem lp_rt {P : Post} {I : Env → Prop} : (P.lp I).rt d = P.rt d := rfl
theorem lp_xc {P : Post} {I : Env → Prop} {C : Str} {fs : List (Str × D)} : (P.lp I).xc C fs env = P.xc C fs env := rfl
theorem add_int {i j : Int} : addD (.int i) (.int j) = .ok (.int (i + j)) := rfl
theorem add_str {i j : Str} (h : i.length + j.length ≤ sizeLine) : addD (.str i) (.str j) = .ok (.str (i ++ j)) := if_pos h
theorem sub_int {i j : Int} : subD (.int i) (.int j) = .ok (.int (i - j)) := rfl
theorem mul_int {i j : Int} (h : i.natAbs.log2 + j.natAbs.log2 < 1000000) : mulD (.int i) (.int j) = .ok (.int (i * j)) := if_pos h
theorem mod_int {i j : Int} (h : 0 < j) : modD (.int i) (.int j) = .ok (.int (i % j)) := if_pos h
theorem fdiv_int {i j : Int} (h : 0 < j ∧ j < 1073741824) : fdivD (.int i) (.int j) = .ok (.int (i / j)) := if_pos h
theorem pow_int {i j : Int} (h : 0 ≤ j ∧ j ≤ 1000000 ∧ i.natAbs < 2 ^ 64) : powD (.int i) (.int j) = .ok (.int (i ^ j.toNat)) := if_pos h
theorem pow_18 : powD (.int 10) (.int 18) = .ok (.int 1000000000000000000) := pow_int (by decide)
theorem lt_int {i j : Int} : ltD (.int i) (.int j) = .ok (.bl (decide (i < j))) := rfl
theorem le_int {i j : Int} : leD (.int i) (.int j) = .ok (.bl (decide (i ≤ j))) := rfl
theorem gt_int {i j : Int} : gtD (.int i) (.int j) = .ok (.bl (decide (j < i))) := rfl
theorem ge_int {i j : Int} : geD (.int i) (.int j) = .ok (.bl (decide (j ≤ i))) := rfl
theorem isN_eq : isNO d .non = .ok (.bl (isNon d)) := rfl
theorem notN_eq : notNO d .non = .ok (.bl (!isNon d)) := rfl
theorem len_lst : lenF [.lst ds] = .ok (.int ds.length) := rfl
theorem len_tup : lenF [.tup ds] = .ok (.int ds.length) := rfl
theorem len_scr {ns : List Int} : lenF [.scr ns] = .ok (.int ns.length) := rfl
theorem int_int {k : Int} : intF [.int k] = .ok (.int k) := rfl
theorem get_str {z : Str} {k : Int} : getD (.str z) (.int k) = strGet z k := rfl
theorem get_tup {k : Int} : getD (.tup ds) (.int k) = seqGet ds k := rfl
theorem get_lst {k : Int} : getD (.lst ds) (.int k) = seqGet ds k := rfl
theorem get_scr {ns : List Int} {k : Int} : getD (.scr ns) (.int k) = seqGet (ns.map .int) k := rfl
theorem items_str {z : Str} : itemsD (.str z) = .ok (strItems z) := rfl
theorem items_lst : itemsD (.lst ds) = .ok ds := rfl
theorem items_tup : itemsD (.tup ds) = .ok ds := rfl
theorem range1_ok {k : Int} (h : -4611686018427387904 < k ∧ k < 4611686018427387904) : range1 [.int k] = .ok (rangeD 0 k.toNat) := if_pos (small62_of h.1 h.2)
theorem range1_nat {k : Nat} (h : k < 4611686018427387904) : range1 [.int (k : Int)] = .ok (rangeD 0 k) := by rw [range1_ok (by omega), Int.toNat_natCast]
theorem range2_nat {i k : Nat} (h : i < 4611686018427387904) (h2 : k < 4611686018427387904) : range2 [.int (i : Int), .int (k : Int)] = .ok (rangeD i (k - i)) := by
  show (if small62 (i : Int) = true ∧ small62 (k : Int) = true then Res.ok (rangeD i ((k : Int) - i).toNat) else .bad) = _
  rw [if_pos ⟨small62_of (by omega) (by omega), small62_of (by omega) (by omega)⟩]
  congr 2
  omega
theorem lst_ok (h : ds.length ≤ sizeLine) : lstD ds = .ok (.lst ds) := if_pos h
theorem tup_ok (h : ds.length ≤ sizeLine) : tupD ds = .ok (.tup ds) := if_pos h
theorem lst_nil : lstD [] = .ok (.lst []) := if_pos (Nat.zero_le _)
theorem sl_str {z : Str} {l u : Option Int} (h : z.length ≤ sizeLine) : sliceD (.str z) l u = .ok (.str (cutS z l u)) := if_pos h
theorem sl_tup {l u : Option Int} : sliceD (.tup ds) l u = .ok (.tup (cutD ds l u)) := rfl
theorem sl_lst {l u : Option Int} : sliceD (.lst ds) l u = .ok (.lst (cutD ds l u)) := rfl
theorem isT_bl {b : Bool} : isT "bool" (.bl b) = .ok (.bl true) := rfl
end
theorem str_len (s : Str) : s.length = s.cps.toList.length := rfl
theorem str_app (s t : Str) : (s ++ t).cps.toList = s.cps.toList ++ t.cps.toList := by
  show (s.cps ++ t.cps).toList = _
  simp
theorem str_app_len (s t : Str) : (s ++ t).length = s.length + t.length := by
  rw [str_len, str_app, List.length_append]; rfl
theorem strGet_of {z : Str} {i : Nat} (hl : z.length ≤ sizeLine) (h : i < z.length) : ∃ c, z.cps.toList[i]? = some c ∧ strGet z i = .ok (.str ⟨#[c]⟩) := by
  have h' : i < z.cps.toList.length := h
  refine ⟨z.cps.toList[i], List.getElem?_eq_getElem h', ?_⟩
  unfold strGet
  rw [if_pos hl]
  unfold atI
  have : ixN z.cps.toList.length (i : Int) = some i := by
    unfold ixN
    rw [if_pos (by omega), if_pos (by omega)]; rfl
  rw [this]
  show (match z.cps.toList[i]? with | some c => Res.ok (D.str ⟨#[c]⟩) | none => .bad) = _
  rw [List.getElem?_eq_getElem h']
theorem seqGet_of {ds : List D} {i : Nat} {d : D} (h : ds[i]? = some d) : seqGet ds i = .ok d := by
  have h' : i < ds.length := (List.getElem?_eq_some_iff.mp h).1
  unfold seqGet atI
  have : ixN ds.length (i : Int) = some i := by
    unfold ixN
    rw [if_pos (by omega), if_pos (by omega)]; rfl
  rw [this]
  show (match ds[i]? with | some c => Res.ok c | none => .bad) = _
  rw [h]
theorem rangeD_get {lo : Int} {n i : Nat} {d : D} (h : (rangeD lo n)[i]? = some d) : i < n ∧ d = .int (lo + i) := by
  unfold rangeD at h
  rw [List.getElem?_map] at h
  cases q : (List.range n)[i]? with
  | none => rw [q] at h; cases h
  | some j =>
    rw [q] at h
    have := List.getElem?_eq_some_iff.mp q
    obtain ⟨h1, h2⟩ := this
    rw [List.getElem_range] at h2
    rw [List.length_range] at h1
    subst h2
    cases h
    exact ⟨h1, rfl⟩
theorem rangeD_len (lo : Int) (n : Nat) : (rangeD lo n).length = n := by unfold rangeD; rw [List.length_map, List.length_range]
theorem rangeD_mem {lo : Int} {n : Nat} {d : D} (h : d ∈ rangeD lo n) : ∃ i : Nat, i < n ∧ d = .int (lo + i) := by
  unfold rangeD at h
  obtain ⟨i, h1, h2⟩ := List.mem_map.mp h
  exact ⟨i, List.mem_range.mp h1, h2.symm⟩
theorem shaped_flat {p : PyData} (h : p.canLay0 = true) (d : p.depth ≤ 64) : SeqAt.shaped p = true := by
  unfold SeqAt.shaped
  rw [h, decide_eq_true d]; rfl
def okS (s : Str) : Bool := s.cps.all (· < 0x110000)
theorem cmp_int (i : Int) : cmpOk (.int i) = true := by
  unfold cmpOk
  rw [show plain (.int i) = true from rfl, Bool.true_and]
  exact shaped_flat (by simp [toPy, PyData.canLay0]) (by simp [toPy, PyData.depth])
theorem cmp_bl (i : Bool) : cmpOk (.bl i) = true := by
  unfold cmpOk
  rw [show plain (.bl i) = true from rfl, Bool.true_and]
  exact shaped_flat (by simp [toPy, PyData.canLay0]) (by simp [toPy, PyData.depth])
theorem eqD_int (s t : Int) : eqD (.int s) (.int t) = decide (s = t) := by
  unfold eqD
  simp only [toPy, PyData.eqv]
  rfl
theorem eqD_bl (s t : Bool) : eqD (.bl s) (.bl t) = (s == t) := by
  unfold eqD
  simp only [toPy, PyData.eqv]
theorem eqO_int (s t : Int) : eqO (.int s) (.int t) = .ok (.bl (decide (s = t))) := by
  unfold eqO
  rw [if_pos ⟨cmp_int s, cmp_int t⟩, eqD_int]
theorem eqO_bl (s t : Bool) : eqO (.bl s) (.bl t) = .ok (.bl (s == t)) := by
  unfold eqO
  rw [if_pos ⟨cmp_bl s, cmp_bl t⟩, eqD_bl]
theorem neO_int (s t : Int) : neO (.int s) (.int t) = .ok (.bl (!decide (s = t))) := by
  unfold neO
  rw [if_pos ⟨cmp_int s, cmp_int t⟩, eqD_int]
theorem canLay_ints : ∀ ns : List Int, PyData.canLayAll0 (ns.map .int) = true
  | [] => by simp [PyData.canLayAll0]
  | n :: ns => by simp [PyData.canLayAll0, PyData.canLay0, canLay_ints ns]
theorem depth_ints : ∀ ns : List Int, PyData.depthAll (ns.map .int) ≤ 1
  | [] => by simp [PyData.depthAll]
  | n :: ns => by
    have := depth_ints ns
    simp [PyData.depthAll, PyData.depth] at this ⊢
    try omega
theorem cmp_scr (ns : List Int) : cmpOk (.scr ns) = true := by
  unfold cmpOk
  rw [show plain (.scr ns) = true from rfl, Bool.true_and]
  have := depth_ints ns
  exact shaped_flat (by simp [toPy, PyData.canLay0, canLay_ints]) (by simp [toPy, PyData.depth]; omega)
theorem cmp_nil : cmpOk (.lst []) = true := by decide +kernel
theorem eqO_scr (ns : List Int) : eqO (.scr ns) (.lst []) = .ok (.bl ns.isEmpty) := by
  unfold eqO
  rw [if_pos ⟨cmp_scr ns, cmp_nil⟩]
  cases ns <;> simp [eqD, toPy, PyData.eqv, PyData.eqvAll, toPys, List.isEmpty]
theorem le_line {n : Nat} (h : n ≤ 1000000) : n ≤ sizeLine := Nat.le_trans h (by decide)
theorem pick_str (L : Str) (m : Int) (hl : L.length ≤ 1000000) (h0 : 0 < m) (hm : m ≤ L.length) (z : Int) : ∃ c, strGet L (z % m) = .ok (.str ⟨#[c]⟩) ∧ c ∈ L.cps.toList := by
  have a0 := Int.emod_nonneg z (show m ≠ 0 by omega)
  have a1 := Int.emod_lt_of_pos z h0
  generalize z % m = i at a0 a1
  obtain ⟨i, rfl⟩ := Int.eq_ofNat_of_zero_le a0
  obtain ⟨c, h1, h2⟩ := @strGet_of L i (le_line hl) (by omega)
  exact ⟨c, h2, List.mem_of_getElem? h1⟩
theorem pick_seq (ds : List D) (m : Int) (h0 : 0 < m) (hm : m ≤ ds.length) (z : Int) : ∃ d, seqGet ds (z % m) = .ok d ∧ d ∈ ds := by
  have a0 := Int.emod_nonneg z (show m ≠ 0 by omega)
  have a1 := Int.emod_lt_of_pos z h0
  generalize z % m = i at a0 a1
  obtain ⟨i, rfl⟩ := Int.eq_ofNat_of_zero_le a0
  have hi : i < ds.length := by omega
  exact ⟨ds[i], seqGet_of (List.getElem?_eq_getElem hi), List.getElem_mem hi⟩
theorem str_sing (c : Nat) : Str.length ⟨#[c]⟩ = 1 := rfl
end VL

set_option maxRecDepth 100000
set_option maxHeartbeats 2000000
namespace VL
open PySem L2
section
variable {γ : D → Env → Option Env} {τ : Env → Res Bool} {φ : Env → Res D} {env : Env} {ι : Env → Res (List D)} {vs : List Nat}
theorem compL_ex (p : D → Prop) : ∀ (ds acc : List D), (∀ d ∈ ds, ∃ e1, γ d env = some e1 ∧ ∃ y, φ e1 = .ok y ∧ p y) → acc.length + ds.length ≤ sizeLine →
    ∃ ys, compL γ yesT φ env ds acc = .ok (.lst (acc ++ ys)) ∧ ys.length = ds.length ∧ ∀ y ∈ ys, p y
  | [], acc, _, _ => ⟨[], by simp [compL], rfl, by simp⟩
  | d :: ds, acc, h, hl => by
    obtain ⟨e1, h1, y, h2, h3⟩ := h d (List.mem_cons_self ..)
    rw [List.length_cons] at hl
    obtain ⟨ys, k1, k2, k3⟩ := compL_ex p ds (acc ++ [y]) (fun d hd => h d (List.mem_cons_of_mem _ hd)) (by simp; omega)
    refine ⟨y :: ys, ?_, by rw [List.length_cons, List.length_cons, k2], fun z hz => ?_⟩
    · unfold compL
      rw [h1]
      simp only [yesT]
      simp only [h2]
      rw [if_pos (by omega), k1]
      simp
    · rcases List.mem_cons.mp hz with rfl | hz
      · exact h3
      · exact k3 z hz
theorem lcE_ex (p : D → Prop) {ds : List D} (hi : ι env = .ok ds) (hl : ds.length ≤ sizeLine) (h : ∀ d ∈ ds, ∃ e1, γ d (wipeE env vs) = some e1 ∧ ∃ y, φ e1 = .ok y ∧ p y) :
    ∃ ys, lcE vs γ ι yesT φ env = .ok (.lst ys) ∧ ys.length = ds.length ∧ ∀ y ∈ ys, p y := by
  unfold lcE
  rw [hi]
  obtain ⟨ys, h1, h2, h3⟩ := compL_ex (env := wipeE env vs) p ds [] h (by simpa using hl)
  exact ⟨ys, h1, h2, h3⟩
end
theorem strsOf_map : ∀ l : List Str, strsOf (l.map .str) = some l
  | [] => rfl
  | s :: l => by
    rw [List.map_cons]
    show (strsOf (l.map .str)).map _ = _
    rw [strsOf_map l]; rfl
theorem sum_le (l : List Str) (k : Nat) (h : ∀ s ∈ l, s.length ≤ k) : (l.map (·.length)).sum ≤ l.length * k := by
  induction l with
  | nil => simp
  | cons s l ih =>
    have h1 := h s (List.mem_cons_self ..)
    have h2 := ih fun s hs => h s (List.mem_cons_of_mem _ hs)
    rw [List.map_cons, List.sum_cons, List.length_cons, Nat.succ_mul]
    omega
theorem join_of (a : Str) (l : List Str) (h : (l.map (·.length)).sum + l.length * a.length ≤ 16777216) : joinD a (.lst (l.map .str)) = .ok (.str (Txt.join a l)) := by
  show joinS a _ = _
  unfold joinS
  rw [strsOf_map]
  exact if_pos h
theorem joinL_nil : ∀ l : List (List Nat), TL.joinL [] l = l.flatten
  | [] => rfl
  | [p] => by simp [TL.joinL]
  | p :: q :: r => by
    show p ++ ([] ++ TL.joinL [] (q :: r)) = _
    rw [joinL_nil (q :: r)]
    simp
theorem tl_join0 (l : List Str) : (Txt.join (Str.ofString "") l).cps.toList = (l.map fun s => s.cps.toList).flatten := by
  have h : TL.tl (Txt.join (Str.ofString "") l) = TL.joinL (TL.tl (Str.ofString "")) (l.map TL.tl) := by rw [TL.join_eq, TL.tl_join]
  have h2 : TL.tl (Str.ofString "") = [] := by decide +kernel
  rw [h2, joinL_nil] at h
  exact h
end VL

set_option maxRecDepth 100000
set_option maxHeartbeats 2000000
namespace VL
open PySem L2
section
variable {X : Cx} {W : WX} {fl fla : Bool} {e a : Expr} {st : Stmt} {sts : List Stmt} {pos : Pos} {φ : Env → Res VL.D}
def negD : VL.D → Res VL.D
  | .int i => .ok (.int (-i))
  | _ => .bad
def negE (φ : Env → Res VL.D) (env : Env) : Res VL.D := (φ env).bind negD
theorem negE_eq {env : Env} : negE φ env = r1 negD (φ env) := rfl
theorem neg_int {i : Int} : negD (.int i) = .ok (.int (-i)) := rfl
end
end VL

set_option maxRecDepth 100000
set_option maxHeartbeats 2000000
namespace VL
open PySem L2
section
variable {X : Cx} {W : WX} {fl fla : Bool} {e a : Expr} {es : List Expr} {st : Stmt} {sts : List Stmt} {pos : Pos} {φ : Env → Res VL.D} {φs : Env → Res (List VL.D)}
def retFS (φ : Env → Res VL.D) (env : Env) : SRes := ofE (φ env) env fun d => .ro d
def outO : SRes → Res VL.D
  | .ro d => .ok d
  | .xc c fs _ => .exc c fs
  | _ => .bad
def PostO (mg : Gm) (M : Addr → Bool) (H : Hp) (Q : VK) (E : XK) : Res VL.D → Prop
  | .ok d => ∀ p H', Ext H H' → H p = none → OwOk mg (addM M p) H' p d → Q (.ref p) H'
  | .exc c fs => ∀ cls dd H', Ext H H' → RpX mg (Sh M (vw H')) c fs cls dd → E cls dd H'
  | .bad => False
def spO (mg : Gm) (n : Nat) (F : List VL.D → Res VL.D) : Sp := fun vs H Q E => vs.length = n ∧ ∃ (M : Addr → Bool) (ds : List VL.D), MOk M H ∧ RpL mg (Sh M (vw H)) ds vs ∧ PostO mg M H Q E (F ds)
end
structure DefOkO (P : Program) (w : World) (K : PySem.W.Frag) (mg : Str → Option Value) (base : Heap) (x : Str) (k : Nat) (ps : List Str) (n : Nat) (F : List D → Res D) : Prop where
  ex : ∃ (f : Addr) (fd : FuncData), mg x = some (.ref f) ∧ PySem.W.keepIn K (.ref f) = true ∧ Binds K fd ps [] ∧ FnOk P w K mg base (L2N.CX P w) k f fd ps (spO ⟨P, w, K, mg⟩ n F)
section
variable {P : Program} {w : World} {K : PySem.W.Frag} {mg : Str → Option Value} {base : Heap} {x qual : Str} {st : Stmt} {N ps : List Str} {k n : Nat} {ψ : Env → SRes} {F G : List D → Res D}
variable {X : Cx} {W : WX} {fl : Bool} {e : Expr} {es : List Expr} {pos p : Pos} {φs : Env → Res (List D)}
end
end VL

set_option maxRecDepth 100000
set_option maxHeartbeats 2000000
namespace VL
open PySem L2
section
variable {X : Cx} {W : WX} {fl fla flb : Bool} {e a b value : Expr} {es : List Expr} {st : Stmt} {sts body orelse : List Stmt} {pos pos' : Pos} {φ φa φb : Env → Res VL.D} {φs : Env → Res (List VL.D)} {ψ : Env → SRes}
def inX (d e : VL.D) : Res VL.D := match e with
  | .dic t es => if keyFit t d = true then .ok (.bl (lookD es d).isSome) else .bad
  | e => inD d e
def notInX (d e : VL.D) : Res VL.D := match e with
  | .dic t es => if keyFit t d = true then .ok (.bl (!(lookD es d).isSome)) else .bad
  | e => notInD d e
def setD (es : List (VL.D × VL.D)) (k v : VL.D) : List (VL.D × VL.D) := if (es.any fun p => eqK p.1 k) = true then es.map (fun p => if eqK p.1 k = true then (p.1, v) else p) else es ++ [(k, v)]
def putS (i : Nat) (φk φv : Env → Res VL.D) (env : Env) : SRes := match env[i]? with
  | some (.ow (.dic t es)) => ofE (φv env) env fun d => ofE (φk env) env fun k => if keyFit t k = true ∧ es.length < sizeLine then .nx (env.set i (.ow (.dic t (setD es k d)))) else .bad
  | _ => .bad
end
end VL

set_option maxRecDepth 100000
set_option maxHeartbeats 2000000
namespace VL
open PySem L2
section
variable {mg : Gm} {H0 H : Hp} {M0 M : Addr → Bool} {σ : L2.St} {env : Env}
end
section
variable {X : Cx} {W : WX} {tg elt : Expr} {ifs : List Expr} {scope : Scope} {own : List (Str × Nat)} {pos : Pos} {γ : D → Env → Option Env} {τ : Env → Res Bool} {φ : Env → Res D}
end
end VL

set_option maxRecDepth 100000
set_option maxHeartbeats 2000000
namespace VL
open PySem L2
section
variable {X : Cx} {W : WX} {fl fla flb : Bool} {e : Expr} {es : List Expr} {pos : Pos} {φs : Env → Res (List D)}
def strF : List D → Res D
  | [.str s] => .ok (.str s)
  | _ => .bad
def ltX : D → D → Res D
  | .str s, .str t => .ok (.bl (decide (s.cps.toList < t.cps.toList)))
  | d, e => ltD d e
end
end VL

set_option maxRecDepth 100000
set_option maxHeartbeats 2000000
namespace VL
open PySem L2
theorem ofE_ok {d : D} {env : Env} {k : D → SRes} : ofE (.ok d) env k = k d := rfl
theorem Sat_ro {P : Post} {d : D} : Sat P (.ro d) = P.ro d := rfl
theorem thn_ro {P : Post} {χ : Env → SRes} {d : D} : (P.thn χ).ro d = P.ro d := rfl
theorem lp_ro {P : Post} {I : Env → Prop} {d : D} : (P.lp I).ro d = P.ro d := rfl
theorem ltX_int {i j : Int} : ltX (.int i) (.int j) = .ok (.bl (decide (i < j))) := rfl
theorem ltX_str {s t : Str} : ltX (.str s) (.str t) = .ok (.bl (decide (s.cps.toList < t.cps.toList))) := rfl
theorem str_str {s : Str} : strF [.str s] = .ok (.str s) := rfl
theorem inX_str {d : D} {z : Str} : inX d (.str z) = inD d (.str z) := rfl
theorem notInX_str {d : D} {z : Str} : notInX d (.str z) = notInD d (.str z) := rfl
theorem list_lst {ds : List D} : listF [.lst ds] = .ok (.lst ds) := rfl
theorem list_tup {ds : List D} : listF [.tup ds] = .ok (.lst ds) := rfl
end VL

set_option maxRecDepth 100000
set_option maxHeartbeats 2000000
set_option autoImplicit false
namespace VL
open PySem L2
section
variable {X : Cx} {pins : List (Addr × Obj)} {σ : L2.St} {H : Hp} {sI s s' : Shared} {B : Heap} {a : Addr} {oe : Obj}
abbrev hEx (H : Hp) (a : Addr) (oe : Obj) : Hp := upd H a (.frz oe (.own a))
end
abbrev TSx := Addr → Obj → Value → Option Addr → TS
inductive Hds (Zp : Value → Option Addr → Obj → Prop) (X : Cx) : List ExceptHandler → List (Value × Option Nat × TSx) → Prop
  | nil : Hds Zp X [] []
  | named {x n : Str} {c : Value} {i : Nat} {ts : TSx} {st1 : Stmt} {sts : List Stmt} {np hp : Pos} {hds : List ExceptHandler} {l : List (Value × Option Nat × TSx)} (hc : Names X x c) (hi : X.N[i]? = some n) (hln : X.env.kindOf n = some .local)
      (hsu : ∀ (a : Addr) (oe : Obj) (cls : Value) (d : Option Addr) (pn : List (Addr × Obj)), Zp cls d oe → (∃ vs, oe.data = .fields vs) → PSs (X.suite a pn) (st1 :: sts) (ts a oe cls d)) (r : Hds Zp X hds l) :
      Hds Zp X (.ExceptHandler (some (.Name x np)) (some n) (st1 :: sts) hp :: hds) ((c, some i, ts) :: l)
  | anon {x : Str} {c : Value} {ts : TSx} {st1 : Stmt} {sts : List Stmt} {np hp : Pos} {hds : List ExceptHandler} {l : List (Value × Option Nat × TSx)} (hc : Names X x c)
      (hsu : ∀ (a : Addr) (oe : Obj) (cls : Value) (d : Option Addr) (pn : List (Addr × Obj)), Zp cls d oe → (∃ vs, oe.data = .fields vs) → PSs (X.suite a pn) (st1 :: sts) (ts a oe cls d)) (r : Hds Zp X hds l) :
      Hds Zp X (.ExceptHandler (some (.Name x np)) none (st1 :: sts) hp :: hds) ((c, none, ts) :: l)
def unD : Option Nat → Ends → Ends
  | none, D => D
  | some i, D => { nx := fun σ H => D.nx (σ.set i none) H, rt := D.rt, bk := fun σ H => D.bk (σ.set i none) H, ct := fun σ H => D.ct (σ.set i none) H }
def inS (on : Option Nat) (a : Addr) (σ : L2.St) : L2.St := match on with
  | none => σ
  | some i => σ.set i (some (.ref a))
def wHs (Zp : Value → Option Addr → Obj → Prop) (K : PySem.W.Frag) (Wout : WX) (D : Ends) : List (Value × Option Nat × TSx) → WX
  | [] => Wout
  | (c, on, ts) :: l => fun cls d σ H => ∃ b, PySem.W.exmOne K cls c = some b ∧ (b = true → ∀ a oe, H a = none → Zp cls d oe → (∃ vs, oe.data = .fields vs) → ts a oe cls d (unD on D) (inS on a σ) (hEx H a oe)) ∧ (b = false → wHs Zp K Wout D l cls d σ H)
section
variable {X : Cx} {body : List Stmt} {h1 : ExceptHandler} {hds : List ExceptHandler} {l : List (Value × Option Nat × TSx)} {pos : Pos} {tb : WX → TS} {Wout : WX}
end
section
variable {X : Cx} {body : List Stmt} {h1 : ExceptHandler} {hds : List ExceptHandler} {l : List (Value × Option Nat × TSx)} {pos : Pos} {tb : WX → TS} {Wout : WX}
end
end VL

set_option maxRecDepth 100000
set_option maxHeartbeats 2000000
set_option autoImplicit false
namespace VL
open PySem L2
def spIn (C : Addr) (ns : List Str) : Sp := fun vs H Q _ => ∃ (a : Addr) (us : List V), vs = .ref a :: us ∧ us.length = ns.length ∧ H a = some (exo a C none) ∧
  ∀ dx, H dx = none → dx ≠ a → Q .non (upd (upd H dx (exd dx (ns.zip us).reverse)) a (exo a C (some dx)))
section
variable {P : Program} {w : World} {K : PySem.W.Frag} {mg : Str → Option Value} {base : Heap} {CX : CXT} {qual f1 f2 : Str} {st : Stmt} {f C : Addr} {fd : FuncData} {q1 q2 q3 q4 r1 r2 r3 r4 : Pos}
end
structure ExI (P : Program) (w : World) (K : PySem.W.Frag) (mg : Str → Option Value) (base : Heap) (x : Str) (ns : List Str) : Prop where
  ex : ∃ (C fI : Addr) (fd : FuncData) (ps : List Str), mg x = some (.ref C) ∧ OexC K C ∧ PySem.W.findIn K (.ref C) "__init__" = some (some (.ref fI)) ∧ PySem.W.typeIn K (.ref fI) = some (.type "function") ∧ Binds K fd ps [] ∧ FnOk P w K mg base (L2N.CX P w) 1 fI fd ps (spIn C ns)
def raise0S (c : Str) (env : Env) : SRes := .xc c [] env
def raiseS (c : Str) (ns : List Str) (φs : Env → Res (List D)) (env : Env) : SRes := ofA (φs env) env fun ds => if ds.length = ns.length then .xc c (ns.zip ds).reverse env else .bad
theorem RpL.reverse {mg : Gm} {G : Vw} : ∀ {ds : List D} {vs : List V}, RpL mg G ds vs → RpL mg G ds.reverse vs.reverse
  | _, _, .nil => .nil
  | _, _, .cons r t => by
    rw [List.reverse_cons, List.reverse_cons]
    exact (RpL.reverse t).append (.cons r .nil)
section
variable {X : Cx} {W : WX} {x m : Str} {j : Nat} {p p2 pos pos2 : Pos} {e : Expr} {es : List Expr} {φs : Env → Res (List VL.D)} {C : Addr} {bmB : List Value} {B newId initId : String}
end
end VL

set_option maxRecDepth 100000
set_option maxHeartbeats 2000000
set_option autoImplicit false
namespace VL
open PySem L2
abbrev HdD := List (Str × Bool) × Option Nat × (Env → SRes)
def outI : Option Nat → SRes → SRes
  | _, .xc _ _ _ => .bad
  | none, r => r
  | some i, .nx e => .nx (e.set i .no)
  | some i, .bk e => .bk (e.set i .no)
  | some i, .ct e => .ct (e.set i .no)
  | some _, r => r
def inE (on : Option Nat) (c : Str) (fs : List (Str × D)) (env : Env) : Env := match on with
  | none => env
  | some i => env.set i (.sh (.exn c fs))
def hndS (c : Str) (fs : List (Str × D)) : List HdD → Env → SRes
  | [], e => .xc c fs e
  | (cat, on, χ) :: r, e => match cat.lookup c with
    | some true => outI on (χ (inE on c fs e))
    | some false => hndS c fs r e
    | none => .bad
def tryS (ψ : Env → SRes) (hs : List HdD) (env : Env) : SRes := match ψ env with
  | .xc c fs e => hndS c fs hs e
  | r => r
def tVB (X : Cx) (W : WX) (χ : Env → SRes) : TS := fun D σ H => ∃ (H0 : Hp) (M0 M : Addr → Bool) (env : Env), Good (gm X) H0 M0 M H σ env ∧ PostS X W H0 M0 M H D (χ env)
theorem vb_canon {X Y : Cx} {W : WX} {sts : List Stmt} {χ : Env → SRes} (h : VB X W sts χ) (e : gm X = gm Y) : PSs X sts (tVB Y W χ) := by
  obtain ⟨t, p, r⟩ := h
  refine ⟨fun pins s σ H D I ⟨H0, M0, M, env, g, k⟩ => p.run pins s σ H D I (r H0 M0 M H σ env D (by rw [e]; exact g) ?_)⟩
  cases q : χ env <;> rw [q] at k <;> first | exact k | (unfold PostS at k ⊢; rw [e]; exact k)
inductive VHds (X : Cx) : List ExceptHandler → List HdD → Prop
  | nil : VHds X [] []
  | named {x n : Str} {cv : Value} {cat : List (Str × Bool)} {i : Nat} {χ : Env → SRes} {st1 : Stmt} {sts : List Stmt} {np hp : Pos} {hds : List ExceptHandler} {l : List HdD} (hc : Names X x cv)
      (hcat : ∀ c b, cat.lookup c = some b → ∃ C, X.mg c = some C ∧ PySem.W.exmOne X.K C cv = some b) (hi : X.N[i]? = some n) (hln : X.env.kindOf n = some .local) (hs : ∀ (a : Addr) (pn : List (Addr × Obj)), VB (X.suite a pn) W0 (st1 :: sts) χ) (r : VHds X hds l) :
      VHds X (.ExceptHandler (some (.Name x np)) (some n) (st1 :: sts) hp :: hds) ((cat, some i, χ) :: l)
  | anon {x : Str} {cv : Value} {cat : List (Str × Bool)} {χ : Env → SRes} {st1 : Stmt} {sts : List Stmt} {np hp : Pos} {hds : List ExceptHandler} {l : List HdD} (hc : Names X x cv)
      (hcat : ∀ c b, cat.lookup c = some b → ∃ C, X.mg c = some C ∧ PySem.W.exmOne X.K C cv = some b) (hs : ∀ (a : Addr) (pn : List (Addr × Obj)), VB (X.suite a pn) W0 (st1 :: sts) χ) (r : VHds X hds l) :
      VHds X (.ExceptHandler (some (.Name x np)) none (st1 :: sts) hp :: hds) ((cat, none, χ) :: l)
section
variable {X : Cx} {W : WX} {H0 H : Hp} {M0 M : Addr → Bool} {D : Ends}
theorem PostS.outI {on : Option Nat} {r : SRes} (h : PostS X W H0 M0 M H D (outI on r)) : PostS X W0 H0 M0 M H (unD on D) r := by
  cases on with
  | none => cases r <;> first | exact h | exact h.elim
  | some i =>
    cases r with
    | nx e => exact fun M' H' σ' g e' => h M' H' _ (g.no i none) e'
    | bk e => exact fun M' H' σ' g e' => h M' H' _ (g.no i none) e'
    | ct e => exact fun M' H' σ' g e' => h M' H' _ (g.no i none) e'
    | xc c fs e => exact h.elim
    | rt d => exact h
    | bad => exact h
    | ro d => exact h
theorem rp_exn {mg : Gm} {a : Addr} {oe : Obj} {c : Str} {fs : List (Str × VL.D)} {cls : Value} {dd : Option Addr} (na : H a = none) (hm : M a = false) (z : Zc cls dd oe) (hv : ∃ vs, oe.data = .fields vs) (h : RpX mg (Sh M (vw H)) c fs cls dd) :
    Rp mg (Sh M (vw (hEx H a oe))) (.exn c fs) (.ref a) := by
  have at_ : Sh M (vw (hEx H a oe)) a = some (.frz oe (.own a)) := by
    rw [Sh_of hm]
    unfold vw
    rw [show hEx H a oe a = _ from upd_same]
  have le : VEx (Sh M (vw H)) (Sh M (vw (hEx H a oe))) := Sh_mono (Ext.new na).v
  obtain ⟨hc, ⟨rfl, rfl⟩ | ⟨d, vs, rfl, hd, hk, hr⟩⟩ := h
  · exact .exn0 at_ z hv hc
  · exact .exnF at_ z hv hc (le _ _ hd) hk (hr.mono le)
theorem Hds.of {hds : List ExceptHandler} {l : List HdD} (h : VHds X hds l) : ∃ l', Hds L2N.Zn X hds l' ∧ Hds Zc X hds l' ∧
    ∀ (Zp : Value → Option Addr → Obj → Prop) (hZ : ∀ c d o, Zp c d o → Zc c d o) (W : WX) (H0 : Hp) (M0 M : Addr → Bool) (H : Hp) (σ : L2.St) (env : Env) (D : Ends) (c : Str) (fs : List (Str × VL.D)) (cls : Value) (dd : Option Addr), Good (gm X) H0 M0 M H σ env → RpX (gm X) (Sh M (vw H)) c fs cls dd →
      PostS X W H0 M0 M H D (hndS c fs l env) → wHs Zp X.K W D l' cls dd σ H := by
  induction h with
  | nil => exact ⟨[], .nil, .nil, fun Zp hZ W H0 M0 M H σ env D c fs cls dd g rx h => h M H σ cls dd g (.refl _) rx⟩
  | @named x n cv cat i χ st1 sts np hp hds l hc hcat hi hln hs r ih =>
    obtain ⟨l', k1, k2, k3⟩ := ih
    refine ⟨(cv, some i, fun _ _ _ _ => tVB X W0 χ) :: l', .named hc hi hln (fun a oe cls d pn _ _ => vb_canon (Y := X) (hs a pn) rfl) k1, .named hc hi hln (fun a oe cls d pn _ _ => vb_canon (Y := X) (hs a pn) rfl) k2, fun Zp hZ W H0 M0 M H σ env D c fs cls dd g rx h => ?_⟩
    unfold hndS at h
    cases q : cat.lookup c with
    | none => rw [q] at h; exact h.elim
    | some b =>
      obtain ⟨C, e1, e2⟩ := hcat c b q
      have ec : C = cls := by
        have := rx.1.symm.trans e1
        cases this; rfl
      subst ec
      rw [q] at h
      refine ⟨b, e2, fun hb a oe na z hv => ?_, fun hb => ?_⟩
      · subst hb
        have ex := Ext.new (o := .frz oe (.own a)) na
        exact ⟨H0, M0, M, _, (g.mono ex).set (rp_exn na (g.nm na).1 (hZ _ _ _ z) hv rx), PostS.outI (PostS.mono h (Sh_mono ex.v))⟩
      · subst hb
        exact k3 Zp hZ W H0 M0 M H σ env D c fs _ dd g rx h
  | @anon x cv cat χ st1 sts np hp hds l hc hcat hs r ih =>
    obtain ⟨l', k1, k2, k3⟩ := ih
    refine ⟨(cv, none, fun _ _ _ _ => tVB X W0 χ) :: l', .anon hc (fun a oe cls d pn _ _ => vb_canon (Y := X) (hs a pn) rfl) k1, .anon hc (fun a oe cls d pn _ _ => vb_canon (Y := X) (hs a pn) rfl) k2, fun Zp hZ W H0 M0 M H σ env D c fs cls dd g rx h => ?_⟩
    unfold hndS at h
    cases q : cat.lookup c with
    | none => rw [q] at h; exact h.elim
    | some b =>
      obtain ⟨C, e1, e2⟩ := hcat c b q
      have ec : C = cls := by
        have := rx.1.symm.trans e1
        cases this; rfl
      subst ec
      rw [q] at h
      refine ⟨b, e2, fun hb a oe na z hv => ?_, fun hb => ?_⟩
      · subst hb
        have ex := Ext.new (o := .frz oe (.own a)) na
        exact ⟨H0, M0, M, _, g.mono ex, PostS.outI (PostS.mono h (Sh_mono ex.v))⟩
      · subst hb
        exact k3 Zp hZ W H0 M0 M H σ env D c fs _ dd g rx h
end
section
variable {X : Cx} {W : WX} {body : List Stmt} {h1 : ExceptHandler} {hds : List ExceptHandler} {pos : Pos} {ψ : Env → SRes} {l : List HdD}
end
end VL

set_option maxRecDepth 100000
set_option maxHeartbeats 2000000
set_option autoImplicit false
namespace VL
open PySem L2
structure XCls (K : PySem.W.Frag) (mg : Str → Option Value) (x : Str) (C : Addr) : Prop where
  gC : mg x = some (.ref C)
  cl : PySem.W.isClsIn K C = true
  ga : PySem.W.findIn K (.ref C) "__getattribute__" = some (some (.builtin "BaseException.__getattribute__"))
  gg : PySem.W.findIn K (.ref C) "__getattr__" = some none
  exC : PySem.W.subIn K (.ref C) (.type "BaseException") = some true
  tyC : PySem.W.typeIn K (.ref C) = some (.type "type")
  hdC : PySem.W.hasDictIn K C = true
  ha : PySem.W.findIn K (.ref C) "__class__" = some (some (.builtin "object.__class__"))
  hm : PySem.W.mroIn K C (.type "object") = some true
structure XObj (K : PySem.W.Frag) : Prop where
  hn : PySem.W.specialIn K (.builtin "object.__class__") "__get__" = some (some (.builtin "getset_descriptor.__get__"))
  htk : PySem.W.takesIn K (.builtin "object.__class__") = some true
def isX (tbl : List (Str × Bool)) : D → Res D
  | .exn c _ => match tbl.lookup c with
    | some b => .ok (.bl b)
    | none => .bad
  | _ => .bad
def isXE (tbl : List (Str × Bool)) (φ : Env → Res D) (env : Env) : Res D := (φ env).bind (isX tbl)
section
variable {X : Cx} {W : WX} {fl fla : Bool} {e c : Expr} {xi pos pos2 : Pos} {φ : Env → Res D} {cv : Value} {es : List Expr} {cvs : List Value} {tbl : List (Str × Bool)} {kk : Nat}
def fldX (cs : List Str) (f : Str) : D → Res D
  | .exn c fs => if cs.contains c = true then (match fs.lookup f with | some v => .ok v | none => .bad) else .bad
  | _ => .bad
def fldXE (cs : List Str) (f : Str) (φ : Env → Res D) (env : Env) : Res D := (φ env).bind (fldX cs f)
end
structure FnC (P : Program) (w : World) (K : PySem.W.Frag) (mg : Str → Option Value) (base : Heap) (CX : CXT) (k : Nat) (f : Addr) (fd : FuncData) (ps : List Str) (sp : Sp) : Prop where
  len : ∀ vs H Q E, sp vs H Q E → vs.length = ps.length
  run : ∀ (A : Around) (outer : List PySem.Env) (s : Shared) (H : Hp) (args : Args) (us : List Value) (vs : List V) (Q : VK) (E : XK), L2H.RoomH k A → Env0 P w K mg base A outer s H → BindsTo s fd args (ps.zip us) → Vals vs us → sp vs H Q E →
    codeAny (model P w) A (.call (.ref f) args) (CR CX outer P w H s Q E) s
section
variable {P : Program} {w : World} {K : PySem.W.Frag} {mg : Str → Option Value} {base : Heap} {CX : CXT} {x qual : Str} {st : Stmt} {f : Addr} {fd : FuncData} {N ps : List Str} {k n : Nat} {sp : Sp}
theorem FnC.ok (F : FnC P w K mg base CX k f fd ps sp) : FnOk P w K mg base CX k f fd ps sp := ⟨F.len, fun A outer s H args us vs Q E hr => F.run A outer s H args us vs Q E (L2H.roomH_of hr)⟩
end
structure DefOkC (P : Program) (w : World) (K : PySem.W.Frag) (mg : Str → Option Value) (base : Heap) (x : Str) (k : Nat) (ps : List Str) (n : Nat) (F : List D → Res D) : Prop where
  ex : ∃ (f : Addr) (fd : FuncData), mg x = some (.ref f) ∧ PySem.W.keepIn K (.ref f) = true ∧ Binds K fd ps [] ∧ FnC P w K mg base (L2N.CX P w) k f fd ps (spV ⟨P, w, K, mg⟩ n F)
  lk : ∀ f fd, mg x = some (.ref f) → (∃ oc od osl, K.lookup f = some ⟨oc, od, .func fd, osl⟩) → FnC P w K mg base (L2N.CX P w) k f fd ps (spV ⟨P, w, K, mg⟩ n F)
section
variable {P : Program} {w : World} {K : PySem.W.Frag} {mg : Str → Option Value} {base : Heap} {x qual : Str} {st : Stmt} {N ps : List Str} {k n : Nat} {ψ : Env → SRes} {F G : List D → Res D}
theorem DefOkC.ok (h : DefOkC P w K mg base x k ps n F) : DefOk P w K mg base x k ps n F := by
  obtain ⟨f, fd, h1, h2, h3, h4⟩ := h.ex
  exact ⟨⟨f, fd, h1, h2, h3, h4.ok⟩, fun f fd e1 e2 => (h.lk f fd e1 e2).ok⟩
variable {X : Cx} {W : WX} {fl : Bool} {e : Expr} {es : List Expr} {pos p : Pos} {φs : Env → Res (List D)}
end
end VL

set_option maxRecDepth 100000
set_option maxHeartbeats 2000000
set_option autoImplicit false
namespace VL
open PySem L2
structure ExZ (K : PySem.W.Frag) (mg : Str → Option Value) (x : Str) : Prop where
  ex : ∃ C, mg x = some (.ref C) ∧ PySem.W.excIn K C [.type "ValueError", .type "Exception", .type "BaseException", .type "object"] "ValueError.__new__" = true ∧ PySem.W.keepIn K (.ref C) = true ∧ PySem.W.subIn K (.ref C) (.type "BaseException") = some true ∧ PySem.W.typeIn K (.ref C) = some (.type "type")
structure RCls (K : PySem.W.Frag) (D : Addr) : Prop where
  cl : PySem.W.isClsIn K D = true
  ty : PySem.W.typeIn K (.ref D) = some (.type "type")
  ex : PySem.W.subIn K (.ref D) (.type "BaseException") = some true
  self : PySem.W.subIn K (.ref D) (.ref D) = some true
end VL

set_option maxRecDepth 100000
set_option maxHeartbeats 2000000
set_option autoImplicit false
namespace VL
open PySem L2
section
variable {φ : Env → Res D} {φs : Env → Res (List D)} {env : Env} {ψ : Env → SRes} {hs : List HdD} {c : Str} {fs : List (Str × D)} {ds : List D} {ns : List Str} {tbl : List (Str × Bool)} {f : Str} {cs : List Str} {P : Post} {i : Nat} {χ : Env → SRes} {cat : List (Str × Bool)}
def rRaise (c : Str) (ns : List Str) (r : Res (List D)) (env : Env) : SRes := ofA r env fun ds => if ds.length = ns.length then .xc c (ns.zip ds).reverse env else .bad
theorem raiseS_eq : raiseS c ns φs env = rRaise c ns (φs env) env := rfl
theorem rRaise_ok : rRaise c ns (.ok ds) env = if ds.length = ns.length then .xc c (ns.zip ds).reverse env else .bad := rfl
theorem raise0S_eq : raise0S c env = .xc c [] env := rfl
theorem isXE_eq : isXE tbl φ env = r1 (isX tbl) (φ env) := rfl
theorem fldXE_eq : fldXE cs f φ env = r1 (fldX cs f) (φ env) := rfl
theorem int_bl {b : Bool} : intF [.bl b] = .ok (.int (if b = true then 1 else 0)) := rfl
theorem outI_nx : outI (some i) (.nx env) = .nx (env.set i .no) := rfl
theorem outI_rt {d : D} : outI (some i) (.rt d) = .rt d := rfl
theorem outI_nx0 : outI none (.nx env) = .nx env := rfl
theorem outI_rt0 {d : D} : outI none (.rt d) = .rt d := rfl
theorem inE_s : inE (some i) c fs env = env.set i (.sh (.exn c fs)) := rfl
theorem inE_0 : inE none c fs env = env := rfl
theorem rSet_xc : rSet i (.exc c fs) env = .xc c fs env := rfl
theorem rDrop_xc : rDrop (.exc c fs) env = .xc c fs env := rfl
theorem rRet_xc : rRet (.exc c fs) env = .xc c fs env := rfl
theorem r1_xc {α β : Type} {g : α → Res β} : r1 g (.exc c fs) = .exc c fs := rfl
theorem rC_xc {b : Res (List D)} : rC (.exc c fs) b = .exc c fs := rfl
theorem r2_xc {g : D → D → Res D} {b : Res D} : r2 g (.exc c fs) b = .exc c fs := rfl
theorem rIf_xc {ψ χ : Env → SRes} : rIf (.exc c fs) ψ χ env = .xc c fs env := rfl
theorem lst_k {ds : List D} (h : ds.length ≤ 1000000) : lstD ds = .ok (.lst ds) := if_pos (Nat.le_trans h (by decide))
theorem tup_k {ds : List D} (h : ds.length ≤ 1000000) : tupD ds = .ok (.tup ds) := if_pos (Nat.le_trans h (by decide))
theorem catl_k {xs ys : List D} (h : xs.length + ys.length ≤ 1000000) : addD (.lst xs) (.lst ys) = .ok (.lst (xs ++ ys)) := if_pos (Nat.le_trans h (by decide))
end
end VL

set_option maxRecDepth 100000
set_option maxHeartbeats 2000000
set_option autoImplicit false
namespace VL
open PySem L2
def entKV (e : DictEntry) : Option (Str × Int) := match e.key, e.val with
  | .str x _, .int i _ => some (x, i)
  | _, _ => none
structure WDic (K : PySem.W.Frag) (P : Params) (mg : Str → Option Value) (x : Str) (l : List (Str × Int)) : Prop where
  ex : ∃ a es n, mg x = some (.ref a) ∧ K.lookup a = some ⟨.type "dict", none, .dict es n, #[]⟩ ∧ PySem.W.KeysLit P es.toList ∧ (a == sysModules) = false ∧ es.toList.map entKV = l.map some
def inW (l : List (Str × Int)) (neg : Bool) : D → Res D
  | .str s => .ok (.bl ((l.lookup s).isSome != neg))
  | _ => .bad
def inWE (l : List (Str × Int)) (neg : Bool) (φ : Env → Res D) (env : Env) : Res D := (φ env).bind (inW l neg)
def ixW (l : List (Str × Int)) : D → Res D
  | .str s => match l.lookup s with
    | some i => .ok (.int i)
    | none => .bad
  | _ => .bad
def ixWE (l : List (Str × Int)) (φ : Env → Res D) (env : Env) : Res D := (φ env).bind (ixW l)
section
variable {X : Cx} {W : WX} {fl fla : Bool} {e : Expr} {x : Str} {l : List (Str × Int)} {p pos : Pos} {φ : Env → Res D}
end
abbrev CaD := Option (List Str) × (Env → SRes)
inductive VCas (X : Cx) (W : WX) : List MatchCase → List CaD → Prop
  | nil : VCas X W [] []
  | one {x : Str} {j : Nat} {q1 q2 : Pos} {sts : List Stmt} {χ : Env → SRes} {cs : List MatchCase} {l : List CaD} (hb : VB X W sts χ) (r : VCas X W cs l) : VCas X W (⟨.MatchValue (.Constant (.str x) j q1) q2, none, sts⟩ :: cs) ((some [x], χ) :: l)
  | two {x y : Str} {j j2 : Nat} {q1 q2 q3 q4 q5 : Pos} {sts : List Stmt} {χ : Env → SRes} {cs : List MatchCase} {l : List CaD} (hb : VB X W sts χ) (r : VCas X W cs l) :
      VCas X W (⟨.MatchOr [.MatchValue (.Constant (.str x) j q1) q2, .MatchValue (.Constant (.str y) j2 q3) q4] q5, none, sts⟩ :: cs) ((some [x, y], χ) :: l)
  | any {q1 : Pos} {sts : List Stmt} {χ : Env → SRes} {cs : List MatchCase} {l : List CaD} (hb : VB X W sts χ) : VCas X W (⟨.MatchAs none none q1, none, sts⟩ :: cs) ((none, χ) :: l)
section
variable {X : Cx} {W : WX} {fl : Bool} {e : Expr} {pos : Pos} {φ : Env → Res D} {cs : List MatchCase} {l : List CaD}
end
end VL

set_option maxRecDepth 100000
set_option maxHeartbeats 2000000
set_option autoImplicit false
namespace VL
open PySem L2
section
variable {l : List (Str × Int)} {b : Bool} {φ : Env → Res D} {env : Env} {s : Str} {i : Int}
theorem inWE_eq : inWE l b φ env = r1 (inW l b) (φ env) := rfl
theorem inW_str : inW l b (.str s) = .ok (.bl ((l.lookup s).isSome != b)) := rfl
theorem ixWE_eq : ixWE l φ env = r1 (ixW l) (φ env) := rfl
theorem guardX_ok {d : D} : guardX (.ok d) = .ok d := rfl
end
end VL

set_option maxRecDepth 100000
set_option maxHeartbeats 2000000
set_option autoImplicit false
namespace VL
open PySem L2
def keyOfN : D → Option (Option Key)
  | .non => some none
  | d => (keyOf d).map some
def keysNOf : List D → Option (List (Option Key))
  | [] => some []
  | d :: ds => match keyOfN d with
    | none => none
    | some k => (keysNOf ds).map (k :: ·)
def noneFit (t : Nat) (k : D) : Bool := match t, k with
  | 1, .tup ds => match keysNOf ds with
    | some ks => ks.any fun k => k.isNone
    | none => false
  | _, _ => false
section
variable {P : Program} {w : World} {H : Hp} {h : Heap} {a b : Addr}
end
section
variable {X : Cx} {pins : List (Addr × Obj)} {σ : St} {H : Hp} {s : Shared} {a : Addr} {y : V} {u : Value} {A : Around} {E : Value → Shared → Prop} {Q : Value → Shared → Prop}
end
section
variable {X : Cx} {W : WX} {fl fla flb : Bool} {e a b : Expr} {es : List Expr} {pos : Pos} {φ φa φb : Env → Res D} {φs : Env → Res (List D)}
def isD01 : D → Bool
  | .dic 0 _ => true
  | .dic 1 _ => true
  | _ => false
def getK (d k : D) : Res D := match d with
  | .dic t es => if keyFit t k = true then .ok ((lookD es k).getD .non) else if noneFit t k = true then .ok .non else .bad
  | _ => .bad
def getE (φa φb : Env → Res D) (env : Env) : Res D := (φa env).bind fun d => if isD01 d = true then (φb env).bind (getK d) else .bad
end
section
variable {es : List (D × D)} {k d : D} {t : Nat} {φa φb : Env → Res D} {env : Env}
def rGet1 (a b : Res D) : Res D := a.bind fun d => if isD01 d = true then b.bind (getK d) else .bad
theorem getE_eq : getE φa φb env = rGet1 (φa env) (φb env) := rfl
def rPut (i : Nat) (s : Option Sl) (rv rk : Res D) (env : Env) : SRes := match s with
  | some (.ow (.dic t es)) => ofE rv env fun d => ofE rk env fun k => if keyFit t k = true ∧ es.length < sizeLine then .nx (env.set i (.ow (.dic t (setD es k d)))) else .bad
  | _ => .bad
theorem putS_eq {i : Nat} : putS i φa φb env = rPut i env[i]? (φb env) (φa env) env := rfl
theorem rPut_ok {i : Nat} : rPut i (some (.ow (.dic t es))) (.ok d) (.ok k) env = if keyFit t k = true ∧ es.length < sizeLine then .nx (env.set i (.ow (.dic t (setD es k d)))) else .bad := rfl
end
end VL

set_option maxRecDepth 100000
set_option maxHeartbeats 2000000
set_option autoImplicit false
namespace VL
open PySem L2
section
variable {mg : Gm} {H0 H H' : Hp} {M0 M M' : Addr → Bool} {σ σ' : L2.St} {env env' : Env} {d : Addr} {u : HO} {o : Obj}
end
section
variable {X : Cx} {W : WX} {tg iter : Expr} {sts : List Stmt} {pos : Pos} {γ : D → Env → Option Env} {ψ : Env → SRes} {φ : Env → Res D}
end
end VL

set_option maxRecDepth 100000
set_option maxHeartbeats 2000000
set_option autoImplicit false
namespace VL
open PySem L2
section
variable {X : Cx} {W : WX} {tg elt iter : Expr} {ifs : List Expr} {scope : Scope} {own : List (Str × Nat)} {pos : Pos} {γ : D → Env → Option Env} {τ : Env → Res Bool} {φ κ : Env → Res D}
end
structure ClsOk (K : PySem.W.Frag) (mg : Str → Option Value) (c : Str) (fs : List Str) : Prop where
  ex : ∃ C, mg c = some (.ref C) ∧ Cls K C ∧ ∀ f, fs.contains f = true → NoAttr K C f
def fldI (c f : Str) : D → Res D
  | .ins c' gs => if c' = c then (match gs.lookup f with | some d => .ok d | none => .bad) else .bad
  | _ => .bad
def fldIE (c f : Str) (φ : Env → Res D) (env : Env) : Res D := (φ env).bind (fldI c f)
section
variable {X : Cx} {W : WX} {fl : Bool} {e value : Expr} {pos pos' : Pos} {φ : Env → Res D} {c f : Str} {fs : List Str}
end
end VL

set_option maxRecDepth 100000
set_option maxHeartbeats 2000000
set_option autoImplicit false
namespace VL
open PySem L2
section
variable {X : Cx} {CX : CXT} {k : Nat} {C f : Addr} {fd : FuncData} {ps : List Str} {sp : Sp} {x m : Str} {p pos apos : Pos} {o e : Expr} {es : List Expr} {ta : TE} {t : TA} {E : L2.St → XK}
end
structure MethOk (P : Program) (w : World) (K : PySem.W.Frag) (mg : Str → Option Value) (base : Heap) (c m : Str) (k : Nat) (ps : List Str) (n : Nat) (F : List D → Res D) : Prop where
  ex : ∃ (C f : Addr) (fd : FuncData), mg c = some (.ref C) ∧ Cls K C ∧ Meth K C m f ∧ Binds K fd ps [] ∧ FnOk P w K mg base (L2N.CX P w) k f fd ps (spV ⟨P, w, K, mg⟩ n F)
structure RawM (K : PySem.W.Frag) (mg : Str → Option Value) (c m qual : Str) (st : Stmt) (ps : List Str) : Prop where
  ex : ∃ (C f : Addr) (fd : FuncData), mg c = some (.ref C) ∧ Cls K C ∧ Meth K C m f ∧ Fun K m qual st f fd ∧ Binds K fd ps []
section
variable {P : Program} {w : World} {K : PySem.W.Frag} {mg : Str → Option Value} {base : Heap} {c m x qual : Str} {st : Stmt} {N ps : List Str} {k n : Nat} {ψ : Env → SRes} {F G : List D → Res D}
end
def isIns (c m : Str) : D → Bool
  | .ins c' gs => decide (c' = c) && (gs.lookup m).isNone
  | _ => false
def methE (c m : Str) (F : List D → Res D) (φ : Env → Res D) (φs : Env → Res (List D)) (env : Env) : Res D := (φ env).bind fun d => if isIns c m d = true then (φs env).bind fun ds => F (d :: ds) else .bad
section
variable {X : Cx} {W : WX} {fl : Bool} {o e : Expr} {es : List Expr} {pos apos : Pos} {φ : Env → Res D} {φs : Env → Res (List D)} {c m : Str} {k n : Nat} {ps : List Str} {F : List D → Res D}
end
def PostK (mg : Gm) (M : Addr → Bool) (H : Hp) (x : Addr) (Q : VK) (E : XK) : Res D → Prop
  | .ok (.ins c gs) => ∀ (H' : Hp) (C dx : Addr) (fs : List (Str × V)), mg.mg c = some (.ref C) → Ext H H' → H' x = some (.ins C dx fs) → gs.map (·.1) = fs.map (·.1) → RpL mg (Sh M (vw H')) (gs.map (·.2)) (fs.map (·.2)) → Q .non H'
  | .exc c fs => ∀ cls dd H', Ext H H' → RpX mg (Sh M (vw H')) c fs cls dd → E cls dd H'
  | _ => False
def spI (mg : Gm) (c : Str) (n : Nat) (F : Addr → List D → Res D) : Sp := fun vs H1 Q E => ∃ (x C dx : Addr) (vs' : List V) (H : Hp) (M : Addr → Bool) (ds : List D), vs = .ref x :: vs' ∧ vs'.length + 1 = n ∧ mg.mg c = some (.ref C) ∧ H x = none ∧ H dx = none ∧ dx ≠ x ∧
  H1 = upd (upd H dx (.own x)) x (.ins C dx []) ∧ MOk M H ∧ RpL mg (Sh M (vw H)) ds vs' ∧ PostK mg M H x Q E (F x ds)
structure InitOk (P : Program) (w : World) (K : PySem.W.Frag) (mg : Str → Option Value) (base : Heap) (c : Str) (k : Nat) (ps : List Str) (n : Nat) (F : Addr → List D → Res D) : Prop where
  ex : ∃ (C f : Addr) (fd : FuncData), mg c = some (.ref C) ∧ Mk K C f ∧ Binds K fd ps [] ∧ FnOk P w K mg base (L2N.CX P w) k f fd ps (spI ⟨P, w, K, mg⟩ c n F)
structure RawK (K : PySem.W.Frag) (mg : Str → Option Value) (c qual : Str) (st : Stmt) (ps : List Str) : Prop where
  ex : ∃ (C f : Addr) (fd : FuncData), mg c = some (.ref C) ∧ Mk K C f ∧ Fun K "__init__" qual st f fd ∧ Binds K fd ps []
section
variable {P : Program} {w : World} {K : PySem.W.Frag} {mg : Str → Option Value} {base : Heap} {c qual y : Str} {st : Stmt} {N ps : List Str} {k n : Nat} {ψ : Env → SRes} {F : Addr → List D → Res D}
end
open Classical in
section
variable {X : Cx} {W : WX} {fl : Bool} {e : Expr} {es : List Expr} {p pos : Pos} {φs : Env → Res (List D)} {c : Str} {k n : Nat} {ps : List Str} {F : Addr → List D → Res D}
end
end VL

set_option maxRecDepth 100000
set_option maxHeartbeats 2000000
set_option autoImplicit false
namespace VL
open PySem L2 PyProof.Rows
section
variable {prog : Program} {w : World} {A : Around} {E : Value → Shared → Prop} {s : Shared} {vl vu vs : Value} {sl t : Addr}
end
section
variable {X : Cx} {W : WX} {fl : Bool} {e : Expr} {te : TE} {j k : Nat} {p0 p1 p2 p3 pos : Pos} {φ : Env → Res VL.D}
end
section
variable {X : Cx} {W : WX} {tg iter kx vx : Expr} {scope : Scope} {own : List (Str × Nat)} {pos : Pos} {ι : Env → Res (List VL.D)} {γ : VL.D → Env → Option Env} {φk φv : Env → Res VL.D}
end
section
variable {K : PySem.W.Frag} {C : Addr} {f : Str} {fs : List Str}
end
end VL

set_option maxRecDepth 100000
set_option maxHeartbeats 2000000
set_option autoImplicit false
namespace VL
open PySem L2
structure PropOk (P : Program) (w : World) (K : PySem.W.Frag) (mg : Str → Option Value) (base : Heap) (c f : Str) (k : Nat) (F : List D → Res D) : Prop where
  ex : ∃ (C p g : Addr) (fd : FuncData), mg c = some (.ref C) ∧ Cls K C ∧ PropOf K C f p g ∧ Binds K fd ["self"] [] ∧ FnOk P w K mg base (L2N.CX P w) k g fd ["self"] (spV ⟨P, w, K, mg⟩ 1 F)
structure RawP (K : PySem.W.Frag) (mg : Str → Option Value) (c f qual : Str) (st : Stmt) : Prop where
  ex : ∃ (C p g : Addr) (fd : FuncData), mg c = some (.ref C) ∧ Cls K C ∧ PropOf K C f p g ∧ Fun K f qual st g fd ∧ Binds K fd ["self"] []
section
variable {P : Program} {w : World} {K : PySem.W.Frag} {mg : Str → Option Value} {base : Heap} {c m qual : Str} {st : Stmt} {N : List Str} {k : Nat} {ψ : Env → SRes} {F : List D → Res D}
end
def isCls (c : Str) : D → Bool
  | .ins c' _ => decide (c' = c)
  | _ => false
def propE (c : Str) (F : List D → Res D) (φ : Env → Res D) (env : Env) : Res D := (φ env).bind fun d => if isCls c d = true then (match F [d] with | .ok r => .ok r | _ => .bad) else .bad
section
variable {X : Cx} {W : WX} {fl : Bool} {e : Expr} {pos : Pos} {φ : Env → Res D} {c f : Str} {k : Nat} {F : List D → Res D}
end
section
variable {X : Cx} {W : WX} {tg iter kx vx : Expr} {scope : Scope} {own : List (Str × Nat)} {pos : Pos} {γ : D → Env → Option Env} {φk φv κ : Env → Res D}
end
end VL

set_option maxRecDepth 100000
set_option maxHeartbeats 2000000
set_option autoImplicit false
namespace VL
open PySem PySem.W PyProof.Rows
section
variable {prog : Program} {w : World} {K : Type} [DecidableEq K] {knd : HeapKind prog w K} {A : Around} {E : Value → Shared → Prop} {s : Shared}
inductive HitsH (prog : Program) (w : World) (A : Around) (s : Shared) (kb : List (K × Addr × Value)) : List (K × Addr × Value) → Bool → Prop
  | nil : HitsH prog w A s kb [] true
  | miss {k : K} {p : Addr × Value} {r : List (K × Addr × Value)} : atKey kb k = none → HitsH prog w A s kb ((k, p) :: r) false
  | hit {k : K} {p y : Addr × Value} {r : List (K × Addr × Value)} {e b : Bool} : atKey kb k = some y → SeqAt.EqP prog w A s p.2 y.2 e → HitsH prog w A s kb r b → HitsH prog w A s kb ((k, p) :: r) (e && b)
end
end VL

set_option maxRecDepth 100000
set_option maxHeartbeats 2000000
set_option autoImplicit false
namespace VL
open PySem L2 PyProof.Rows
section
variable {P : Program} {w : World} {A : Around} {s : Shared} {H : Hp}
end
section
variable {X : Cx}
end
section
variable {prog : Program} {w : World} {K : Type} [DecidableEq K] {A : Around} {E : Value → Shared → Prop} {s : Shared}
open PySem.W in
open PySem.W in
end
section
variable {P : Program} {w : World} {A : Around} {s : Shared} {H : Hp}
end
section
variable {X : Cx}
end
section
variable {X : Cx} {W : WX} {fl fla flb : Bool}
end
end VL

set_option maxRecDepth 100000
set_option maxHeartbeats 2000000
set_option autoImplicit false
namespace VL
open PySem PySem.Spec PyProof.Rows L2 L2H HotX
section
variable {prog : Program} {w : World} {A : Around} {s : Shared} {E : Value → Shared → Prop}
end
def HG (X : Cx) : Prop := ∀ (pins : List (Addr × Obj)) (σ : L2.St) (H : Hp) (s : Shared), Inv X pins σ H s → X.A.handled = none ∨ ∃ x1, HotAt X.A x1 s.heap
theorem HG.calm {X : Cx} (h : X.A.handled = none) : HG X := fun _ _ _ _ _ => .inl h
theorem HG.base {X : Cx} {a : Addr} {o : Obj} {vs : Array Value} {u : HO} (hh : X.A.handled = some (.ref a)) (hH : X.H_0 a = some (.frz o u)) (hdt : o.data = .fields vs) (hc : vs[2]? = some .none) : HG X :=
  fun _ _ _ _ I => .inr ⟨a, hh, o, vs, (I.hok a _ (I.base.frzs a o u hH)).1, hdt, hc⟩
end VL

set_option maxRecDepth 100000
set_option maxHeartbeats 2000000
set_option autoImplicit false
namespace VL
open PySem PySem.Spec PyProof.Rows L2 L2H HotX
structure TurnG (P : Program) (w : World) (K : PySem.W.Frag) (tg : Expr) (J : It) (fpr : List Addr) (jt : Addr) (tn : Nat → Heap → Prop) : Prop where
  mem : jt ∈ fpr
  obj : ∀ i h, tn i h → ∀ b ∈ fpr, ∃ o, h.get? b = some o ∧ ∀ v, o.data ≠ .cell v
  keep : ∀ i h h', tn i h → (∀ b ∈ fpr, ∀ o, h.get? b = some o → h'.get? b = some o) → tn i h'
  item : ∀ (X : Cx), X.prog = P → X.w = w → X.K = K → HG X → ∀ (i : Nat) (pis : List (Addr × Obj)) (s : Shared) (σ : L2.St) (H : Hp) (E : Value → Shared → Prop), Inv X pis σ H s → (∀ b ∈ fpr, FpOk X pis H b) → tn i s.heap → J.go i H →
    wpAny (model P w) X.A (pyNext (.ref jt)) (fun r s1 => ∃ u, r = some u ∧
      wpAny (model P w) X.A (letOwnedTupleGo tg (.ref jt) u) (fun _ s2 => ∃ x H', Inv X pis σ H' s2 ∧ RelV x u ∧ J.yld i H x H' ∧ tn (i + 1) s2.heap ∧ ∀ b ∈ fpr, H' b = none) E s1) E s
  done : ∀ (X : Cx), X.prog = P → X.w = w → X.K = K → HG X → ∀ (i : Nat) (pis : List (Addr × Obj)) (s : Shared) (σ : L2.St) (H : Hp) (E : Value → Shared → Prop), Inv X pis σ H s → (∀ b ∈ fpr, FpOk X pis H b) → tn i s.heap → J.stop i H →
    wpAny (model P w) X.A (pyNext (.ref jt)) (fun r s1 => r = none ∧ Inv X pis σ H s1) E s
  self : ∀ (A : Around) (i : Nat) (s : Shared) (Q : Value → Shared → Prop) (E : Value → Shared → Prop), tn i s.heap → Q (.ref jt) s → wpAny (model P w) A (pyIter (.ref jt)) Q E s
def PIEG (X : Cx) (pis : List (Addr × Obj)) (σ : L2.St) (tg : Expr) (R : It → Hp → Prop) (itv : Value) (s2 : Shared) : Prop :=
  ∃ (jt : Addr) (fpr : List Addr) (tn : Nat → Heap → Prop) (J : It) (H' : Hp), itv = .ref jt ∧ Inv X pis σ H' s2 ∧ TurnG X.prog X.w X.K tg J fpr jt tn ∧ tn 0 s2.heap ∧ (∀ b ∈ fpr, FpOk X pis H' b) ∧ R J H'
structure PIG (X : Cx) (tg iter : Expr) (wi : TI) : Prop where
  run : ∀ (pis : List (Addr × Obj)) (s : Shared) (σ : L2.St) (H : Hp) (R : It → Hp → Prop), Inv X pis σ H s → wi σ H R →
    wpAny (model X.prog X.w) X.A (eval iter X.env) (fun v s1 => wpAny (model X.prog X.w) X.A (pyIter v) (PIEG X pis σ tg R) X.xe s1) X.xe s
section
variable {X : Cx} {tg : Expr}
end
section
variable {X : Cx} {tg : Expr}
end
section
variable {X : Cx} {W : WX} {tg e iter : Expr} {sts : List Stmt} {pos : Pos} {φ : Env → Res D} {ψ : Env → SRes} {ι : Env → Res (List D)} {γ : D → Env → Option Env}
end
end VL

set_option maxRecDepth 100000
set_option maxHeartbeats 2000000
set_option autoImplicit false
namespace VL
open PySem L2
def HotS (A : Around) (H : Hp) : Prop := A.handled = none ∨ ∃ (a : Addr) (o : Obj) (vs : Array Value) (u : HO), A.handled = some (.ref a) ∧ H a = some (.frz o u) ∧ o.data = .fields vs ∧ vs[2]? = some .none
def HS (X : Cx) : Prop := ∀ (pins : List (Addr × Obj)) (σ : L2.St) (H : Hp) (s : Shared), Inv X pins σ H s → HotS X.A H
theorem HS.calm {X : Cx} (h : X.A.handled = none) : HS X := fun _ _ _ _ _ => .inl h
theorem HS.hg {X : Cx} (h : HS X) : HG X := fun pins σ H s I => (h pins σ H s I).elim .inl fun ⟨a, o, vs, u, h1, h2, h3, h4⟩ => .inr ⟨a, h1, o, vs, (I.hok a _ h2).1, h3, h4⟩
theorem HS.start {X : Cx} (h : HotS X.A X.H_0) : HS X := fun _ _ _ _ I => h.elim .inl fun ⟨a, o, vs, u, h1, h2, h3, h4⟩ => .inr ⟨a, o, vs, u, h1, I.base.frzs a o u h2, h3, h4⟩
structure FnG (P : Program) (w : World) (K : PySem.W.Frag) (mg : Str → Option Value) (base : Heap) (CX : CXT) (k : Nat) (f : Addr) (fd : FuncData) (ps : List Str) (sp : Sp) : Prop where
  len : ∀ vs H Q E, sp vs H Q E → vs.length = ps.length
  run : ∀ (A : Around) (outer : List PySem.Env) (s : Shared) (H : Hp) (args : Args) (us : List Value) (vs : List V) (Q : VK) (E : XK), L2H.RoomH k A → HotS A H → Env0 P w K mg base A outer s H → BindsTo s fd args (ps.zip us) → Vals vs us → sp vs H Q E →
    codeAny (model P w) A (.call (.ref f) args) (CR CX outer P w H s Q E) s
section
variable {P : Program} {w : World} {K : PySem.W.Frag} {mg : Str → Option Value} {base : Heap} {CX : CXT} {x qual : Str} {st : Stmt} {f : Addr} {fd : FuncData} {N ps : List Str} {k n : Nat} {sp : Sp}
theorem FnG.ok (F : FnG P w K mg base CX k f fd ps sp) : FnOk P w K mg base CX k f fd ps sp := ⟨F.len, fun A outer s H args us vs Q E hr => F.run A outer s H args us vs Q E (L2H.roomH_of hr) (.inl hr.hd)⟩
end
structure DefOkG (P : Program) (w : World) (K : PySem.W.Frag) (mg : Str → Option Value) (base : Heap) (x : Str) (k : Nat) (ps : List Str) (n : Nat) (F : List D → Res D) : Prop where
  ex : ∃ (f : Addr) (fd : FuncData), mg x = some (.ref f) ∧ PySem.W.keepIn K (.ref f) = true ∧ Binds K fd ps [] ∧ FnG P w K mg base (L2N.CX P w) k f fd ps (spV ⟨P, w, K, mg⟩ n F)
  lk : ∀ f fd, mg x = some (.ref f) → (∃ oc od osl, K.lookup f = some ⟨oc, od, .func fd, osl⟩) → FnG P w K mg base (L2N.CX P w) k f fd ps (spV ⟨P, w, K, mg⟩ n F)
section
variable {P : Program} {w : World} {K : PySem.W.Frag} {mg : Str → Option Value} {base : Heap} {x qual : Str} {st : Stmt} {N ps : List Str} {k n : Nat} {ψ : Env → SRes} {F G : List D → Res D}
theorem DefOkG.ok (h : DefOkG P w K mg base x k ps n F) : DefOk P w K mg base x k ps n F := by
  obtain ⟨f, fd, h1, h2, h3, h4⟩ := h.ex
  exact ⟨⟨f, fd, h1, h2, h3, h4.ok⟩, fun f fd e1 e2 => (h.lk f fd e1 e2).ok⟩
variable {X : Cx} {W : WX} {fl : Bool} {e : Expr} {es : List Expr} {pos p : Pos} {φs : Env → Res (List D)}
end
end VL

set_option maxRecDepth 100000
set_option maxHeartbeats 2000000
set_option autoImplicit false
namespace VL
open PySem L2
abbrev suiteG (X : Cx) (a : Addr) (oe : Obj) (pn : List (Addr × Obj)) : Cx := { X.suite a pn with H_0 := upd X.H_0 a (.frz oe (.own a)) }
structure Fits (X : Cx) (a : Addr) (oe : Obj) : Prop where
  new : ∀ o, X.s_0.heap.get? a = some o → X.H_0 a = none → False
  tup : ∀ xs, X.H_0 a = some (.tup xs) → False
  tbl : ∀ ps, X.H_0 a = some (.tbl ps) → False
  frz : ∀ o u, X.H_0 a = some (.frz o u) → some (HO.frz o u) = some (.frz oe (.own a))
  nfs : a ∉ X.fs
section
variable {X : Cx} {pins : List (Addr × Obj)} {σ : L2.St} {H : Hp} {s : Shared} {a : Addr} {oe : Obj}
theorem HS.suite {pn : List (Addr × Obj)} {vs : Array Value} (hd : oe.data = .fields vs) (hc : vs[2]? = some .none) : HS (suiteG X a oe pn) :=
  HS.start (.inr ⟨a, oe, vs, .own a, rfl, upd_same, hd, hc⟩)
end
end VL

set_option maxRecDepth 100000
set_option maxHeartbeats 2000000
set_option autoImplicit false
namespace VL
open PySem PySem.Spec PyProof.Rows L2 L2H HotX
section
variable {X : Cx} {tg : Expr}
end
section
variable {X : Cx} {W : WX} {fl : Bool} {tg : Expr} {pos : Pos} {φs : Env → Res (List D)}
end
end VL

set_option maxRecDepth 100000
set_option maxHeartbeats 2000000
namespace VL
open PySem L2

section
variable {X : Cx}
end
def lmE (f : List D → D → Res D) (φa φb : Env → Res D) (env : Env) : Res D := (φa env).bind fun d => match d with
  | .lst ds => (φb env).bind (f ds)
  | _ => .bad
section
variable {X : Cx} {W : WX} {fl fla flb : Bool} {o e : Expr} {name : Str} {apos pos : Pos} {φa φb : Env → Res D}
end
end VL

set_option maxRecDepth 100000
set_option maxHeartbeats 2000000
set_option autoImplicit false
namespace VL
open PySem PySem.Spec PyProof.Rows L2 L2H HotX
section
variable {prog : Program} {w : World} {A : Around} {s : Shared} {E : Value → Shared → Prop}
end
section
variable {X : Cx} {tg : Expr}
end
section
variable {X : Cx} {W : WX} {tg e : Expr} {φ : Env → Res D}
end
inductive HdsG (X : Cx) : List ExceptHandler → List (Value × Option Nat × TSx) → Prop
  | nil : HdsG X [] []
  | named {x n : Str} {c : Value} {i : Nat} {ts : TSx} {st1 : Stmt} {sts : List Stmt} {np hp : Pos} {hds : List ExceptHandler} {l : List (Value × Option Nat × TSx)} (hc : Names X x c) (hi : X.N[i]? = some n) (hln : X.env.kindOf n = some .local)
      (hsu : ∀ (a : Addr) (oe : Obj) (cls : Value) (d : Option Addr) (pn : List (Addr × Obj)), L2N.Zn cls d oe → (∃ vs, oe.data = .fields vs) → PSs (suiteG X a oe pn) (st1 :: sts) (ts a oe cls d)) (r : HdsG X hds l) :
      HdsG X (.ExceptHandler (some (.Name x np)) (some n) (st1 :: sts) hp :: hds) ((c, some i, ts) :: l)
  | anon {x : Str} {c : Value} {ts : TSx} {st1 : Stmt} {sts : List Stmt} {np hp : Pos} {hds : List ExceptHandler} {l : List (Value × Option Nat × TSx)} (hc : Names X x c)
      (hsu : ∀ (a : Addr) (oe : Obj) (cls : Value) (d : Option Addr) (pn : List (Addr × Obj)), L2N.Zn cls d oe → (∃ vs, oe.data = .fields vs) → PSs (suiteG X a oe pn) (st1 :: sts) (ts a oe cls d)) (r : HdsG X hds l) :
      HdsG X (.ExceptHandler (some (.Name x np)) none (st1 :: sts) hp :: hds) ((c, none, ts) :: l)
section
variable {X : Cx} {body : List Stmt} {h1 : ExceptHandler} {hds : List ExceptHandler} {l : List (Value × Option Nat × TSx)} {pos : Pos} {tb : WX → TS} {Wout : WX}
end
inductive VHdsG (X : Cx) : List ExceptHandler → List HdD → Prop
  | nil : VHdsG X [] []
  | named {x n : Str} {cv : Value} {cat : List (Str × Bool)} {i : Nat} {χ : Env → SRes} {st1 : Stmt} {sts : List Stmt} {np hp : Pos} {hds : List ExceptHandler} {l : List HdD} (hc : Names X x cv)
      (hcat : ∀ c b, cat.lookup c = some b → ∃ C, X.mg c = some C ∧ PySem.W.exmOne X.K C cv = some b) (hi : X.N[i]? = some n) (hln : X.env.kindOf n = some .local) (hs : ∀ (a : Addr) (oe : Obj) (pn : List (Addr × Obj)), HS (suiteG X a oe pn) → VB (suiteG X a oe pn) W0 (st1 :: sts) χ) (r : VHdsG X hds l) :
      VHdsG X (.ExceptHandler (some (.Name x np)) (some n) (st1 :: sts) hp :: hds) ((cat, some i, χ) :: l)
  | anon {x : Str} {cv : Value} {cat : List (Str × Bool)} {χ : Env → SRes} {st1 : Stmt} {sts : List Stmt} {np hp : Pos} {hds : List ExceptHandler} {l : List HdD} (hc : Names X x cv)
      (hcat : ∀ c b, cat.lookup c = some b → ∃ C, X.mg c = some C ∧ PySem.W.exmOne X.K C cv = some b) (hs : ∀ (a : Addr) (oe : Obj) (pn : List (Addr × Obj)), HS (suiteG X a oe pn) → VB (suiteG X a oe pn) W0 (st1 :: sts) χ) (r : VHdsG X hds l) :
      VHdsG X (.ExceptHandler (some (.Name x np)) none (st1 :: sts) hp :: hds) ((cat, none, χ) :: l)
section
variable {X : Cx}
theorem hs_zn {a : Addr} {oe : Obj} {pn : List (Addr × Obj)} {cls : Value} {d : Option Addr} (z : L2N.Zn cls d oe) (v : ∃ vs, oe.data = .fields vs) : HS (suiteG X a oe pn) := by
  obtain ⟨vs, hd⟩ := v
  exact HS.suite hd (z.2.2 vs hd)
theorem HdsG.of {hds : List ExceptHandler} {l : List HdD} (h : VHdsG X hds l) : ∃ l', HdsG X hds l' ∧
    ∀ (Zp : Value → Option Addr → Obj → Prop) (hZ : ∀ c d o, Zp c d o → Zc c d o) (W : WX) (H0 : Hp) (M0 M : Addr → Bool) (H : Hp) (σ : L2.St) (env : Env) (D : Ends) (c : Str) (fs : List (Str × VL.D)) (cls : Value) (dd : Option Addr), Good (gm X) H0 M0 M H σ env → RpX (gm X) (Sh M (vw H)) c fs cls dd →
      PostS X W H0 M0 M H D (hndS c fs l env) → wHs Zp X.K W D l' cls dd σ H := by
  induction h with
  | nil => exact ⟨[], .nil, fun Zp hZ W H0 M0 M H σ env D c fs cls dd g rx h => h M H σ cls dd g (.refl _) rx⟩
  | @named x n cv cat i χ st1 sts np hp hds l hc hcat hi hln hs r ih =>
    obtain ⟨l', k1, k3⟩ := ih
    refine ⟨(cv, some i, fun _ _ _ _ => tVB X W0 χ) :: l', .named hc hi hln (fun a oe cls d pn z v => vb_canon (Y := X) (hs a oe pn (hs_zn z v)) rfl) k1, fun Zp hZ W H0 M0 M H σ env D c fs cls dd g rx h => ?_⟩
    unfold hndS at h
    cases q : cat.lookup c with
    | none => rw [q] at h; exact h.elim
    | some b =>
      obtain ⟨C, e1, e2⟩ := hcat c b q
      have ec : C = cls := by
        have := rx.1.symm.trans e1
        cases this; rfl
      subst ec
      rw [q] at h
      refine ⟨b, e2, fun hb a oe na z hv => ?_, fun hb => ?_⟩
      · subst hb
        have ex := Ext.new (o := .frz oe (.own a)) na
        exact ⟨H0, M0, M, _, (g.mono ex).set (rp_exn na (g.nm na).1 (hZ _ _ _ z) hv rx), PostS.outI (PostS.mono h (Sh_mono ex.v))⟩
      · subst hb
        exact k3 Zp hZ W H0 M0 M H σ env D c fs _ dd g rx h
  | @anon x cv cat χ st1 sts np hp hds l hc hcat hs r ih =>
    obtain ⟨l', k1, k3⟩ := ih
    refine ⟨(cv, none, fun _ _ _ _ => tVB X W0 χ) :: l', .anon hc (fun a oe cls d pn z v => vb_canon (Y := X) (hs a oe pn (hs_zn z v)) rfl) k1, fun Zp hZ W H0 M0 M H σ env D c fs cls dd g rx h => ?_⟩
    unfold hndS at h
    cases q : cat.lookup c with
    | none => rw [q] at h; exact h.elim
    | some b =>
      obtain ⟨C, e1, e2⟩ := hcat c b q
      have ec : C = cls := by
        have := rx.1.symm.trans e1
        cases this; rfl
      subst ec
      rw [q] at h
      refine ⟨b, e2, fun hb a oe na z hv => ?_, fun hb => ?_⟩
      · subst hb
        have ex := Ext.new (o := .frz oe (.own a)) na
        exact ⟨H0, M0, M, _, g.mono ex, PostS.outI (PostS.mono h (Sh_mono ex.v))⟩
      · subst hb
        exact k3 Zp hZ W H0 M0 M H σ env D c fs _ dd g rx h
end
section
variable {X : Cx} {W : WX} {body : List Stmt} {h1 : ExceptHandler} {hds : List ExceptHandler} {pos : Pos} {ψ : Env → SRes} {l : List HdD}
end
end VL

set_option maxRecDepth 100000
set_option maxHeartbeats 2000000
set_option autoImplicit false
namespace VL
open PySem L2
theorem m_eq {n : Nat} {b : Env → SRes} {ds : List D} {r : Res D} (h : outS (b (env0 n ds)) = r) : defM n b ds = r := h
section
variable {d : D} {env : Env} {c : Str} {fs : List (Str × D)} {hs : List HdD} {γ : D → Env → Option Env} {ψ : Env → SRes} {ι : Env → Res (List D)} {ds : List D} {φ : Env → Res D} {φs : Env → Res (List D)} {m f : Str} {F : List D → Res D}
theorem outS_rt : outS (.rt d) = .ok d := rfl
theorem outS_nx : outS (.nx env) = .ok .non := rfl
theorem outS_xc : outS (.xc c fs env) = .exc c fs := rfl
def rTry (hs : List HdD) : SRes → SRes
  | .xc c fs e => hndS c fs hs e
  | r => r
theorem tryS_eq : tryS ψ hs env = rTry hs (ψ env) := by
  unfold tryS rTry
  cases ψ env <;> rfl
theorem rTry_nx : rTry hs (.nx env) = .nx env := rfl
theorem rTry_rt : rTry hs (.rt d) = .rt d := rfl
theorem rTry_xc : rTry hs (.xc c fs env) = hndS c fs hs env := rfl
theorem hndS_eq {cat : List (Str × Bool)} {on : Option Nat} {χ : Env → SRes} {r : List HdD} : hndS c fs ((cat, on, χ) :: r) env = match cat.lookup c with
    | some true => outI on (χ (inE on c fs env))
    | some false => hndS c fs r env
    | none => .bad := rfl
def rMeth (c m : Str) (F : List D → Res D) (a : Res D) (b : Res (List D)) : Res D := a.bind fun d => if isIns c m d = true then b.bind fun ds => F (d :: ds) else .bad
theorem methE_eq : methE c m F φ φs env = rMeth c m F (φ env) (φs env) := rfl
theorem rMeth_ok : rMeth c m F (.ok d) (.ok ds) = if isIns c m d = true then F (d :: ds) else .bad := rfl
def rProp (c : Str) (F : List D → Res D) (a : Res D) : Res D := a.bind fun d => if isCls c d = true then (match F [d] with | .ok r => .ok r | _ => .bad) else .bad
theorem propE_eq : propE c F φ env = rProp c F (φ env) := rfl
theorem rProp_ok : rProp c F (.ok d) = if isCls c d = true then (match F [d] with | .ok r => .ok r | _ => .bad) else .bad := rfl
def rLm (f : List D → D → Res D) (a b : Res D) : Res D := a.bind fun d => match d with
  | .lst ds => b.bind (f ds)
  | _ => .bad
theorem lmE_eqR {f : List D → D → Res D} {φa φb : Env → Res D} : lmE f φa φb env = rLm f (φa env) (φb env) := rfl
theorem rLm_ok {f : List D → D → Res D} {e : D} : rLm f (.ok (.lst ds)) (.ok e) = f ds e := rfl
theorem fldIE_eqR : fldIE c f φ env = r1 (fldI c f) (φ env) := rfl
end
def runL {α σ : Type} (step : σ → α → σ ⊕ Res D) (s : σ) : List α → σ ⊕ Res D
  | [] => .inl s
  | a :: xs => match step s a with
    | .inl s' => runL step s' xs
    | .inr o => .inr o
def stepP {σ : Type} (R : σ → Env → Prop) : σ ⊕ Res D → Post
  | .inl s => { nx := R s, ct := R s }
  | .inr (.ok d) => { rt := fun x => x = d }
  | .inr (.exc c fs) => { xc := fun x y _ => x = c ∧ y = fs }
  | .inr .bad => {}
def endK {σ : Type} (P : Post) (R : σ → Env → Prop) : σ ⊕ Res D → Prop
  | .inl s => ∀ env, R s env → P.nx env
  | .inr (.ok d) => P.rt d
  | .inr (.exc c fs) => ∀ env, P.xc c fs env
  | .inr .bad => True
theorem Sat.runL {α σ : Type} {P : Post} {γ : D → Env → Option Env} {ψ : Env → SRes} {f : α → D} {step : σ → α → σ ⊕ Res D} {R : σ → Env → Prop} : ∀ {xs : List α} {s : σ} {env : Env},
    (∀ s a env, a ∈ xs → R s env → ∃ env1, γ (f a) env = some env1 ∧ Sat (stepP R (step s a)) (ψ env1)) → R s env → endK P R (VL.runL step s xs) → Sat P (forL γ ψ (xs.map f) env)
  | [], s, env, _, h0, hk => hk env h0
  | a :: xs, s, env, h, h0, hk => by
    obtain ⟨env1, e1, h1⟩ := h s a env (List.mem_cons_self ..) h0
    show Sat P (match γ (f a) env with | none => SRes.bad | some env1 => flowL (ψ env1) (forL γ ψ (xs.map f)))
    rw [e1]
    show Sat P (flowL (ψ env1) (forL γ ψ (xs.map f)))
    have hk' : endK P R (match step s a with | .inl s' => VL.runL step s' xs | .inr o => .inr o) := hk
    cases q : step s a with
    | inl s' =>
      rw [q] at h1 hk'
      have go : ∀ env, R s' env → Sat P (forL γ ψ (xs.map f) env) := fun env hr => Sat.runL (fun s a env ha => h s a env (List.mem_cons_of_mem _ ha)) hr hk'
      cases z : ψ env1 <;> rw [z] at h1 <;> first | exact h1.elim | exact go _ h1
    | inr o =>
      rw [q] at h1 hk'
      cases o with
      | ok d =>
        cases z : ψ env1 <;> rw [z] at h1 <;> first | exact h1.elim | skip
        case rt x =>
          have e : x = d := h1
          rw [e]; exact hk'
      | exc c fs =>
        cases z : ψ env1 <;> rw [z] at h1 <;> first | exact h1.elim | skip
        case xc x y e =>
          obtain ⟨q1, q2⟩ := h1
          rw [q1, q2]; exact hk' e
      | bad => cases z : ψ env1 <;> rw [z] at h1 <;> exact h1.elim
theorem Sat.run {α σ : Type} {P : Post} {γ : D → Env → Option Env} {ψ : Env → SRes} {ι : Env → Res (List D)} {env : Env} (xs : List α) (f : α → D) (step : σ → α → σ ⊕ Res D) (R : σ → Env → Prop) (s : σ) (hi : ι env = .ok (xs.map f)) (h0 : R s env)
    (h : ∀ s a env, a ∈ xs → R s env → ∃ env1, γ (f a) env = some env1 ∧ Sat (stepP R (step s a)) (ψ env1)) (hk : endK P R (VL.runL step s xs)) : Sat P (VL.forS γ ι ψ env) := by
  unfold VL.forS ofA
  rw [hi]
  exact Sat.runL h h0 hk
end VL

set_option maxRecDepth 100000
set_option maxHeartbeats 2000000
set_option autoImplicit false
namespace VL
open PySem L2

section
variable {X : Cx} {W : WX} {fl fla flb : Bool}
end

def tyNames : List String := ["NoneType", "bool", "int", "str", "tuple", "list", "dict"]
structure ClsQ (K : PySem.W.Frag) (mg : Str → Option Value) (c : Str) : Prop where
  ex : ∃ C, mg c = some (.ref C) ∧ Cls K C ∧ PySem.W.findIn K (.ref C) "__class__" = some (some (.builtin "object.__class__")) ∧ PySem.W.specialIn K (.builtin "object.__class__") "__get__" = some (some (.builtin "getset_descriptor.__get__")) ∧
    PySem.W.takesIn K (.builtin "object.__class__") = some true ∧ PySem.W.mroIn K C (.type "object") = some true ∧ ∀ S ∈ tyNames, PySem.W.kitOne K (.type S) (.ref C) = some false
section
variable {X : Cx} {W : WX} {fl fla : Bool} {e : Expr} {pos : Pos} {φ : Env → Res D}
end

section
variable {X : Cx} {W : WX} {fl fla flb : Bool} {e e2 : Expr} {es : List Expr} {pos : Pos} {φ φi : Env → Res D} {φs : Env → Res (List D)}
end

section
variable {X : Cx} {W : WX}
end
section
variable {X : Cx} {W : WX} {tg iter : Expr} {sts : List Stmt} {pos : Pos} {γ : D → Env → Option Env} {ψ : Env → SRes} {φ : Env → Res D}
end
end VL

set_option maxRecDepth 100000
set_option maxHeartbeats 2000000
set_option autoImplicit false
namespace VL
open PySem L2
section
variable {X : Cx} {W : WX} {tg iter tg1 iter1 elt : Expr} {ifs ifs1 : List Expr} {scope : Scope} {pos : Pos} {ι ι1 : Env → Res (List D)} {γ γ1 : D → Env → Option Env} {τ τ1 : Env → Res Bool} {φ : Env → Res D}
end
end VL

set_option maxRecDepth 100000
set_option maxHeartbeats 2000000
set_option autoImplicit false
namespace VL
open PySem L2
end VL

set_option maxRecDepth 100000
set_option maxHeartbeats 2000000
set_option autoImplicit false
namespace VL
open PySem L2
section
variable {P : Program} {w : World} {H : Hp} {h : Heap} {a : Addr}
end
section
variable {P : Program} {w : World} {H : Hp} {h : Heap} {a : Addr} {kvs : List (NK × Addr × V)}
end
section
variable {X : Cx} {pins : List (Addr × Obj)} {σ : St} {H : Hp} {s : Shared} {a q : Addr} {A : Around} {E : Value → Shared → Prop} {G : Vw} {kvs : List (NK × Addr × V)} {k : NK} {v : V} {r : Value}
structure NRd (X : Cx) (H : Hp) (a q : Addr) (kvs : List (NK × Addr × V)) (k : NK) : Prop where
  rd : Rd H a (nDict X.w a kvs)
  ks : ∀ e ∈ kvs, NTup H e.1 e.2.1
  ky : NTup H k q
end
end VL

set_option maxRecDepth 100000
set_option maxHeartbeats 2000000
set_option autoImplicit false
namespace VL
open PySem L2
section
variable {X : Cx} {W : WX} {fla flb fl : Bool} {a b value : Expr} {φa φb : Env → Res D} {pos pos' : Pos}
end
end VL

set_option maxRecDepth 100000
set_option maxHeartbeats 2000000
set_option autoImplicit false
namespace VL
open PySem L2
section
variable {X : Cx} {W : WX} {fla flb fl : Bool} {a b value : Expr} {φa φb : Env → Res D} {pos pos' : Pos}
end
end VL

set_option maxRecDepth 100000
set_option maxHeartbeats 2000000
set_option autoImplicit false
namespace VL
open PySem L2
section
variable {X : Cx} {pins : List (Addr × Obj)} {σ : St} {H : Hp} {s : Shared} {d : Addr} {o : Obj} {kvs : List (NK × Addr × V)}
end
section
variable {P : Program} {w : World} {K : PySem.W.Frag} {tg : Expr} {d : Addr} {o : Obj} {es : Array DictEntry} {ep : Nat} {kvs : List (NK × Addr × V)}
end
section
variable {X : Cx} {tg e : Expr} {td : TE} {apos cpos : Pos}
end
end VL

set_option maxRecDepth 100000
set_option maxHeartbeats 2000000
set_option autoImplicit false
namespace VL
open PySem L2
section
variable {X : Cx} {W : WX} {tg elt kx vx : Expr} {ifs : List Expr} {scope : Scope} {own : List (Str × Nat)} {pos : Pos} {γ : D → Env → Option Env} {τ : Env → Res Bool} {φ φk φv : Env → Res D}
end
end VL

set_option maxRecDepth 100000
set_option maxHeartbeats 2000000
set_option autoImplicit false
namespace VL
open PySem L2
section
variable {X : Cx} {W : WX} {tg elt iter : Expr} {ifs : List Expr} {scope : Scope} {own : List (Str × Nat)} {pos : Pos} {γ : D → Env → Option Env} {τ : Env → Res Bool} {φ φd : Env → Res D}
end
end VL

set_option maxRecDepth 100000
set_option maxHeartbeats 2000000
set_option autoImplicit false
namespace VL
open PySem L2
section
variable {X : Cx} {W : WX} {flb fl : Bool} {b : Expr} {φb : Env → Res D} {pos : Pos}
end
end VL

set_option maxRecDepth 100000
set_option maxHeartbeats 2000000
set_option autoImplicit false
namespace VL
open PySem L2
def dct : Option HO → Bool
  | some (.dK _) => true
  | some (.dT _) => true
  | some (.ext _) => true
  | _ => false
def dm (M : Addr → Bool) (H : Hp) (a : Addr) : Bool := M a && !dct (H a)
def nodic : D → Bool
  | .tup ds => nodics ds
  | .lst ds => nodics ds
  | .scr _ => false
  | .dic _ _ => false
  | .ins _ _ => false
  | .exn _ _ => false
  | .sel _ _ _ => false
  | _ => true
where nodics : List D → Bool
  | [] => true
  | d :: ds => nodic d && nodics ds
mutual
theorem Rp.nd {mg : Gm} {G G' : Vw} (e : ∀ a xs, G a = some (.tup xs) → G' a = some (.tup xs)) (e2 : ∀ a xs, G a = some (.lst xs) → G' a = some (.lst xs)) : ∀ {d : D} {v : V}, Rp mg G d v → nodic d = true → Rp mg G' d v
  | _, _, .non, _ => .non
  | _, _, .bl b, _ => .bl b
  | _, _, .int i, _ => .int i
  | _, _, .str s, _ => .str s
  | _, _, .tup h r, q => .tup (e _ _ h) (RpL.nd e e2 r q)
  | _, _, .lst h r, q => .lst (e2 _ _ h) (RpL.nd e e2 r q)
  | _, _, .scr h, q => by cases q
  | _, _, .dicK h k r, q => by cases q
  | _, _, .dicT h k r, q => by cases q
  | _, _, .dicN h n k r, q => by cases q
  | _, _, .ins m h k r, q => by cases q
  | _, _, .sel m h k r, q => by cases q
  | _, _, .exn0 .., q => by cases q
  | _, _, .exnF .., q => by cases q
theorem RpL.nd {mg : Gm} {G G' : Vw} (e : ∀ a xs, G a = some (.tup xs) → G' a = some (.tup xs)) (e2 : ∀ a xs, G a = some (.lst xs) → G' a = some (.lst xs)) : ∀ {ds : List D} {vs : List V}, RpL mg G ds vs → nodic.nodics ds = true → RpL mg G' ds vs
  | _, _, .nil, _ => .nil
  | _, _, .cons h r, q => by
    obtain ⟨q1, q2⟩ := Bool.and_eq_true_iff.mp (show (nodic _ && nodic.nodics _) = true from q)
    exact .cons (Rp.nd e e2 h q1) (RpL.nd e e2 r q2)
end
def PostAd (X : Cx) (W : WX) (M : Addr → Bool) (σ : St) (H : Hp) (Q : List V → Hp → Prop) : Res (List D) → Prop
  | .ok ds => ∀ vs H', Ext H H' → RpL (gm X) (Sh (dm M H') (vw H')) ds vs → Q vs H'
  | .exc c fs => ∀ cls dd H', Ext H H' → RpX (gm X) (Sh M (vw H')) c fs cls dd → W cls dd σ H'
  | .bad => False
section
variable {X : Cx} {W : WX} {e : Expr} {es : List Expr} {pos p : Pos} {φ : Env → Res D} {φs : Env → Res (List D)} {k n : Nat} {x : Str} {ps : List Str} {F : List D → Res D}
theorem PostAd.mono {M : Addr → Bool} {σ : St} {H H' : Hp} {Q : List V → Hp → Prop} {r : Res (List D)} (h : PostAd X W M σ H Q r) (e : Ext H H') : PostAd X W M σ H' Q r := by
  cases r with
  | ok d => exact fun v H2 e2 r => h v H2 (e.trans e2) r
  | exc c fs => exact fun cls dd H2 e2 r => h cls dd H2 (e.trans e2) r
  | bad => exact h
end
end VL

set_option maxRecDepth 100000
set_option maxHeartbeats 2000000
set_option autoImplicit false
namespace VL
open PySem L2
section
variable {X : Cx} {W : WX} {e : Expr} {es : List Expr} {pos p : Pos} {φs : Env → Res (List D)}
end
end VL

set_option maxRecDepth 100000
set_option maxHeartbeats 2000000
set_option autoImplicit false
namespace VL
open PySem L2
@[irreducible] def fuelN (_ : Env) : Nat := 1000000
section
variable {X : Cx} {W : WX} {e : Expr} {pos : Pos} {φ : Env → Res D}
end
end VL

set_option maxRecDepth 100000
set_option maxHeartbeats 2000000
set_option autoImplicit false
namespace VL
open PySem L2 PyProof.Rows
section
variable {X : Cx} {W : WX} {tg elt kx vx iter : Expr} {ifs : List Expr} {scope : Scope} {own : List (Str × Nat)} {pos spos py : Pos} {γ : D → Env → Option Env} {τ : Env → Res Bool} {φ φk φv : Env → Res D} {ι : Env → Res (List D)}
end
end VL

set_option maxRecDepth 100000
set_option maxHeartbeats 2000000
set_option autoImplicit false
namespace VL
open PySem L2
section
variable {X : Cx} {W : WX} {fl : Bool} {e : Expr} {φ : Env → Res D}
end
end VL

set_option maxRecDepth 100000
set_option maxHeartbeats 2000000
set_option autoImplicit false
namespace VL
open PySem L2
section
variable {X : Cx} {CX : CXT} {k : Nat} {C f : Addr} {fd : FuncData} {ps : List Str} {sp : Sp} {pos : Pos} {a b : Expr} {ta tb : TE} {E : L2.St → XK} {op : CmpOp}
end
section
variable {X : Cx} {W : WX} {fl : Bool} {a b : Expr} {pos : Pos} {φa φb : Env → Res D} {c m : Str} {k : Nat} {ps : List Str} {F : List D → Res D} {op : CmpOp}
end
end VL
namespace VL
open PySem L2
end VL

set_option maxRecDepth 100000
set_option maxHeartbeats 2000000
set_option autoImplicit false
namespace VNe
open PySem PySem.Spec PyProof.Rows PySem.SeqAt
section
variable {M : Model} {prog : Program} {w : World} {A : Around} {E : Value → Shared → Prop} {s : Shared} {K : PySem.W.Frag} {x C L f : Addr} {h₀ : Heap} {m : Str → Option Value} {ox : Obj} {od : Option Obj} {b tb : Value}
open PySem.W in
end
end VNe
namespace VL
open PySem L2
section
variable {X : Cx} {CX : CXT} {k : Nat} {C f : Addr} {fd : FuncData} {ps : List Str} {sp : Sp} {pos : Pos} {a b : Expr} {ta tb : TE} {E : L2.St → XK}
end
structure OwnNe (K : PySem.W.Frag) (mg : Str → Option Value) (c : Str) : Prop where
  ex : ∀ C, mg c = some (.ref C) → PySem.W.notFirst K C (.type "int") = true ∧ PySem.W.notFirst K C (.type "list") = true ∧ PySem.W.findIn K (.ref C) "__ne__" = some (some (.builtin "object.__ne__")) ∧ PySem.W.mroIn K C (.type "object") = some true
section
variable {X : Cx} {W : WX} {fl : Bool} {a b : Expr} {pos : Pos} {φa φb : Env → Res D} {c : Str} {k : Nat} {ps : List Str} {F : List D → Res D}
end
end VL

set_option maxRecDepth 100000
set_option maxHeartbeats 2000000
set_option autoImplicit false
namespace VL
open PySem L2

section
variable {X : Cx} {W : WX} {fl : Bool} {e : Expr} {es : List Expr} {p : Pos} {φ : Env → Res D} {φs : Env → Res (List D)}
end
end VL

set_option maxRecDepth 100000
set_option maxHeartbeats 2000000
set_option autoImplicit false
namespace VL
open PySem L2

section
variable {X : Cx} {W : WX} {fl fla : Bool}
end
end VL

set_option maxRecDepth 100000
set_option maxHeartbeats 2000000
set_option autoImplicit false
namespace VL
open PySem L2

section
variable {X : Cx} {W : WX} {fl : Bool} {e : Expr} {k : Nat} {p1 p2 p3 pos : Pos} {φ : Env → Res D}
end
end VL

set_option maxRecDepth 100000
set_option maxHeartbeats 2000000
set_option autoImplicit false
namespace VL
open PySem L2 PyProof.Rows
section
variable {X : Cx} {P : Program} {w : World} {A : Around} {s : Shared} {H : Hp}
variable {W : WX} {fl fla flb : Bool}
end
end VL

set_option maxRecDepth 100000
set_option maxHeartbeats 2000000
set_option autoImplicit false
namespace PySem.SeqAt
open AutoSeq1 (wpAny_loadPart')
open MeetsSeq MeetsSeq2 MeetsSeq3 SeqRoads2
section
variable {P : Program} {Wd : World}
end
end PySem.SeqAt
namespace VL
open PySem L2 PyProof.Rows
section
variable {X : Cx}
variable {W : WX} {fl fla flb : Bool}
end
end VL

set_option maxRecDepth 100000
set_option maxHeartbeats 2000000
namespace VL
open PySem L2
abbrev kwG : List Value → List Value → List Value := fun us ws => us ++ ws
abbrev kwV : List V → List V → List V := fun vs zs => vs ++ zs
structure RawKw (K : PySem.W.Frag) (mg : Str → Option Value) (x : Str) (st : Stmt) (ps : List Str) (m : Nat) (ks : List Str) : Prop where
  ex : ∃ (f : Addr) (fd : FuncData), mg x = some (.ref f) ∧ Fun K x x st f fd ∧ KBn K fd ps m ks kwG kwV
structure DefOkKw (P : Program) (w : World) (K : PySem.W.Frag) (mg : Str → Option Value) (base : Heap) (x : Str) (k : Nat) (ps : List Str) (m : Nat) (ks : List Str) (n : Nat) (F : List D → Res D) : Prop where
  ex : ∃ (f : Addr) (fd : FuncData), mg x = some (.ref f) ∧ PySem.W.keepIn K (.ref f) = true ∧ KBn K fd ps m ks kwG kwV ∧ FnOk P w K mg base (L2N.CX P w) k f fd ps (spV ⟨P, w, K, mg⟩ n F)
section
variable {X : Cx} {W : WX} {fl : Bool} {k m n : Nat} {f : Addr} {fd : FuncData} {ps ks : List Str} {sp : Sp} {x : Str} {p pos : Pos} {e : Expr} {es : List Expr} {kws : List Keyword} {t tk : TA} {F : List D → Res D}
end
end VL

set_option maxRecDepth 100000
set_option maxHeartbeats 2000000
set_option autoImplicit false
namespace VL
open PySem L2
section
variable {X : Cx} {CX : CXT} {k : Nat} {C f : Addr} {fd : FuncData} {ps : List Str} {sp : Sp} {pos : Pos} {a b : Expr} {ta tb : TE} {E : L2.St → XK} {op : Operator}
end
section
variable {X : Cx} {W : WX} {fl : Bool} {a b : Expr} {pos : Pos} {φa φb : Env → Res D} {c m : Str} {k : Nat} {ps : List Str} {F : List D → Res D} {op : Operator}
end
end VL

set_option maxRecDepth 100000
set_option maxHeartbeats 2000000
set_option autoImplicit false
namespace VL
open PySem L2
section
open DT
end
section
variable {X : Cx}
end
section
variable {X : Cx} {W : WX} {fla : Bool} {e : Expr} {pos : Pos} {φk : Env → Res D}
end
end VL

set_option maxRecDepth 100000
set_option maxHeartbeats 2000000
namespace VL
open PySem L2
section
variable {X : Cx} {W : WX} {tg elt : Expr} {ifs : List Expr} {scope : Scope} {own : List (Str × Nat)} {pos : Pos} {γ : D → Env → Option Env} {τ : Env → Res Bool} {φ : Env → Res D}
end
end VL

set_option maxRecDepth 100000
set_option maxHeartbeats 2000000
namespace VL
open PySem L2
def LastOk (mg : Gm) (H0 : Hp) (M0 : Addr → Bool) (H' : Hp) (ds : List VL.D) (v : V) : Prop :=
  ∃ (t q : Addr) (xs : List V) (ds' es : List VL.D), v = .ref t ∧ ds = ds' ++ [.lst es] ∧ H' t = some (.tup (xs ++ [.ref q])) ∧ xs.length = ds'.length ∧ H0 q = none ∧ OwOk mg (addM M0 q) H' q (.lst es)
def PostL (X : Cx) (W : WX) (H0 : Hp) (M0 M : Addr → Bool) (H : Hp) (D : Ends) : SRes → Prop
  | .rt (.tup ds) => ∀ v H', Ext H0 H' → LastOk (gm X) H0 M0 H' ds v → D.rt v H'
  | .rt _ => False
  | r => PostS X W H0 M0 M H D r
section
variable {X : Cx} {W : WX} {st : Stmt} {sts : List Stmt} {ψ χ : Env → SRes} {H0 H H' : Hp} {M0 M M' : Addr → Bool} {D : Ends} {r : SRes}
theorem PostL.mono (h : PostL X W H0 M0 M H D r) (e : VEx (Sh M (vw H)) (Sh M' (vw H'))) : PostL X W H0 M0 M' H' D r := by
  cases r with
  | rt d => cases d <;> exact h
  | nx env => exact PostS.mono (W := W) (D := D) (r := .nx env) h e
  | bk env => exact PostS.mono (W := W) (D := D) (r := .bk env) h e
  | ct env => exact PostS.mono (W := W) (D := D) (r := .ct env) h e
  | xc c fs env => exact PostS.mono (W := W) (D := D) (r := .xc c fs env) h e
  | bad => exact h
  | ro d => exact PostS.mono (W := W) (D := D) (r := .ro d) h e
end
section
end
section
variable {X : Cx} {W : WX} {a0 a1 a2 : Expr} {φ0 φ1 φ2 : Env → Res VL.D} {pos pos' px : Pos}
end
def PostLd (mg : Gm) (M : Addr → Bool) (H : Hp) (Q : VK) (E : XK) : Res VL.D → Prop
  | .ok (.tup ds) => ∀ v H', Ext H H' → LastOk mg H M H' ds v → Q v H'
  | .ok _ => False
  | .exc c fs => ∀ cls dd H', Ext H H' → RpX mg (Sh M (vw H')) c fs cls dd → E cls dd H'
  | .bad => False
def spL (mg : Gm) (n : Nat) (F : List VL.D → Res VL.D) : Sp := fun vs H Q E => vs.length = n ∧ ∃ (M : Addr → Bool) (ds : List VL.D), MOk M H ∧ RpL mg (Sh M (vw H)) ds vs ∧ PostLd mg M H Q E (F ds)
structure DefOkL (P : Program) (w : World) (K : PySem.W.Frag) (mg : Str → Option Value) (base : Heap) (x : Str) (k : Nat) (ps : List Str) (n : Nat) (F : List D → Res D) : Prop where
  ex : ∃ (f : Addr) (fd : FuncData), mg x = some (.ref f) ∧ PySem.W.keepIn K (.ref f) = true ∧ Binds K fd ps [] ∧ FnOk P w K mg base (L2N.CX P w) k f fd ps (spL ⟨P, w, K, mg⟩ n F)
section
variable {P : Program} {w : World} {K : PySem.W.Frag} {mg : Str → Option Value} {base : Heap} {x qual : Str} {st : Stmt} {N ps : List Str} {k n : Nat} {ψ : Env → SRes} {F G : List D → Res D}
variable {X : Cx} {W : WX} {e b : Expr} {es : List Expr} {pos pos2 p : Pos} {φs : Env → Res (List D)}
end
end VL

set_option maxRecDepth 100000
set_option maxHeartbeats 2000000
namespace VL
open PySem L2
def PostKp (X : Cx) (H0 : Hp) (M0 M : Addr → Bool) (H : Hp) (v : Option (Option V)) (i : Nat) (D : Ends) : SRes → Prop
  | .nx env => ∀ M' H' σ', Good (gm X) H0 M0 M' H' σ' env → VEx (Sh M (vw H)) (Sh M' (vw H')) → σ'[i]? = v → D.nx σ' H'
  | .bk env => ∀ M' H' σ', Good (gm X) H0 M0 M' H' σ' env → VEx (Sh M (vw H)) (Sh M' (vw H')) → σ'[i]? = v → D.bk σ' H'
  | .ct env => ∀ M' H' σ', Good (gm X) H0 M0 M' H' σ' env → VEx (Sh M (vw H)) (Sh M' (vw H')) → σ'[i]? = v → D.ct σ' H'
  | _ => False
section
variable {X : Cx} {W : WX} {i : Nat} {st : Stmt} {sts : List Stmt} {e : Expr} {pos : Pos} {ψ χ : Env → SRes} {φ : Env → Res VL.D} {τ : Env → Res Bool} {fla : Bool}
theorem PostKp.mono {H0 H H' : Hp} {M0 M M' : Addr → Bool} {v : Option (Option V)} {D : Ends} {r : SRes} (h : PostKp X H0 M0 M H v i D r) (e : VEx (Sh M (vw H)) (Sh M' (vw H'))) : PostKp X H0 M0 M' H' v i D r := by
  cases r <;> first | exact h | exact fun M2 H2 σ2 g e2 hv => h M2 H2 σ2 g (e.trans e2) hv
end
def PostU (mg : Gm) (M : Addr → Bool) (H : Hp) (p : Addr) (Q : VK) : Res VL.D → Prop
  | .ok d => ∀ H', (∀ a u, a ≠ p → H a = some u → H' a = some u) → OwOk mg M H' p d → Q .non H'
  | _ => False
def spU (mg : Gm) (n : Nat) (F : List VL.D → Res VL.D) : Sp := fun vs H Q _ => vs.length = n ∧ ∃ (M : Addr → Bool) (p : Addr) (d : VL.D) (ds : List VL.D) (vs' : List V), vs = .ref p :: vs' ∧ MOk M H ∧ M p = true ∧ OwOk mg M H p d ∧ RpL mg (Sh M (vw H)) ds vs' ∧ PostU mg M H p Q (F (d :: ds))
structure DefOkU (P : Program) (w : World) (K : PySem.W.Frag) (mg : Str → Option Value) (base : Heap) (x : Str) (k : Nat) (ps : List Str) (n : Nat) (F : List D → Res D) : Prop where
  ex : ∃ (f : Addr) (fd : FuncData), mg x = some (.ref f) ∧ PySem.W.keepIn K (.ref f) = true ∧ Binds K fd ps [] ∧ FnOk P w K mg base (L2N.CX P w) k f fd ps (spU ⟨P, w, K, mg⟩ n F)
section
variable {P : Program} {w : World} {K : PySem.W.Frag} {mg : Str → Option Value} {base : Heap} {x qual : Str} {st : Stmt} {N ps : List Str} {k n : Nat} {ψ : Env → SRes} {F G : List D → Res D}
variable {X : Cx} {W : WX} {es : List Expr} {pos cpos p px : Pos} {φs : Env → Res (List D)} {y : Str}
end
end VL

set_option maxRecDepth 100000
set_option maxHeartbeats 2000000
set_option autoImplicit false
namespace VL
open PySem PySem.Spec PyProof.Rows L2
section
structure Part (P : Program) (w : World) (j l : Addr) (ws : Array Value) (St : Nat → Heap → Prop) : Prop where
  item : ∀ (B : Around) (t : Shared) (E : Value → Shared → Prop) (Q : Value → Shared → Prop) (k : Nat) (x : Value), St k t.heap → ws[k]? = some x → (∀ g, St (k + 1) g → Heap.SameBut j t.heap g → Q x { t with heap := g }) → wpAny (model P w) B (Builtin.SmallTypes.nextOf (.ref j)) Q E t
  stop : ∀ (B : Around) (t : Shared) (E : Value → Shared → Prop) (Q : Value → Shared → Prop) (k : Nat), B.handled = none → St k t.heap → ws[k]? = none → (∀ g e, Heap.ExtBut j t.heap g → (∃ o, g.get? e = some o ∧ o.cls = .type "StopIteration") → E (.ref e) { t with heap := g }) → wpAny (model P w) B (Builtin.SmallTypes.nextOf (.ref j)) Q E t
  keep : ∀ (k : Nat) (h g : Heap), St k h → (∀ c o, c = j ∨ c = l → h.get? c = some o → g.get? c = some o) → St k g
  obj : ∀ (k : Nat) (h : Heap), St k h → ∃ o, h.get? j = some o ∧ ∀ v, o.data ≠ .cell v
variable {P : Program} {w : World} {B : Around} {E : Value → Shared → Prop} {t : Shared} {q u o j1 j2 l1 l2 : Addr} {k : Nat} {ws vs : Array Value} {St Sv : Nat → Heap → Prop} {a b x y : Value}
theorem Part.sb (p : Part P w j1 l1 ws St) {h g : Heap} {c : Addr} (st : St k h) (sb : Heap.SameBut c h g) (n1 : j1 ≠ c) (n2 : l1 ≠ c) : St k g := p.keep k h g st fun d o hd hg => sb.extBut d o (by rcases hd with rfl | rfl <;> assumption) hg
end
section
end
section
end
end VL

set_option maxRecDepth 100000
set_option maxHeartbeats 2000000
set_option autoImplicit false
namespace VL
open PySem PySem.Spec PyProof.Rows L2
section
variable {X : Cx} {W : WX} {e : Expr} {es : List Expr} {pos : Pos} {φs : Env → Res (List VL.D)}
end
end VL

set_option maxRecDepth 100000
set_option maxHeartbeats 2000000
set_option autoImplicit false
namespace VL
open PySem PySem.Spec PyProof.Rows L2
theorem walk_ofT {l : PySem.W.OpenLaw} {n k : Nat} {q : Program} {loose : List Str} {XP : (Str → Option Value) → Heap → Prop} {YP : World → Heap → Prop} {d : DefRec} {CX : World → CXT} {x : Str}
    (hn : l.most = some n) (hn2 : n ≤ sizeLine) (hdf : d.params.defaults = []) (hr : Room k callerA) (h63 : n ≤ 63)
    (F : ∀ (w : World) (mg : Str → Option Value) (fa : Addr) (h : Heap), YP w h → h.Ns mainGlobals mg → mg d.name = some (.ref fa) →
      ∃ (K : Fr) (fd : FuncData), K.In h ∧ (∀ (s : Shared) (u : Value), BindsTo s fd ⟨[u], []⟩ [(x, u)]) ∧ ∀ base : Heap, K.In base → base.Ns mainGlobals mg → FnOk l.prog w K mg base (CX w) k fa fd [x] (spEnd K))
    (hCX : ∀ (w : World) (H : Hp) (s : Shared) (e : Value) (s' : Shared), CX w [] H s (fun _ _ _ => False) e s' → False) :
    PySem.W.WalkO q loose XP YP l.row.toRowW d [] (fun f vs => PySem.call f vs) := by
  refine Att.attach_callB hn hdf fun w s0 s1 mg mb fa o pm cd doc a vs ns G Y ho hd hcd hmg hobj hints hlen hbits hg => ?_
  obtain ⟨K, fd, KX, hb, hF⟩ := F w mg fa _ Y G.T.g hmg
  exact law_call KX G.T.g G.T.b G.T.builtins G.T.nolimit hg hobj hints (Nat.le_trans hlen hn2) hr hF hb (fun H _ hS => ⟨a, ns, rfl, hS, Nat.le_trans hlen h63, hbits, fun _ => rfl⟩) fun H e s' => hCX w H s1 e s'
end VL

set_option maxRecDepth 100000
set_option maxHeartbeats 2000000
set_option autoImplicit false
namespace VL
open PySem PySem.Spec PyProof.Rows L2
section
variable {X : Cx} {W : WX} {a b : Expr} {pos : Pos} {φa φb : Env → Res VL.D}
end
end VL

set_option maxRecDepth 100000
set_option maxHeartbeats 2000000
set_option autoImplicit false
namespace VL
open PySem L2
structure NoRd (X : Cx) (H : Hp) (a q : Addr) (kvs : List (NK × Addr × V)) (s : Str) : Prop where
  rd : Rd H a (nDict X.w a kvs)
  ks : ∀ e ∈ kvs, NTup H e.1 e.2.1
  ky : H q = some (.tup [.non, .str s])
section
variable {X : Cx} {pins : List (Addr × Obj)} {σ : St} {H : Hp} {s : Shared} {a q : Addr} {A : Around} {E : Value → Shared → Prop} {kvs : List (NK × Addr × V)} {z : Str}
end
section
variable {X : Cx} {W : WX} {fla flb fl : Bool}
end
end VL

set_option maxRecDepth 100000
set_option maxHeartbeats 2000000
set_option autoImplicit false
namespace VL
open PySem L2
def AtK (mg : Gm) (G : Vw) (p : Addr) (t : Nat) : Prop := (t = 1 ∧ ∃ kvs, G p = some (.dT kvs)) ∨ (t = 2 ∧ ∃ kvs, G p = some (nDict mg.w p kvs))
section
variable {mg : Gm} {G G' : Vw} {p : Addr} {t : Nat}
theorem AtK.tup (h : AtK mg G p t) {xs : List V} (e : G p = some (.tup xs)) : False := by
  rcases h with ⟨_, kvs, h⟩ | ⟨_, kvs, h⟩ <;> (rw [h] at e; cases e)
theorem AtK.lst (h : AtK mg G p t) {xs : List V} (e : G p = some (.lst xs)) : False := by
  rcases h with ⟨_, kvs, h⟩ | ⟨_, kvs, h⟩ <;> (rw [h] at e; cases e)
theorem AtK.dK (h : AtK mg G p t) {xs : List (Key × V)} (e : G p = some (.dK xs)) : False := by
  rcases h with ⟨_, kvs, h⟩ | ⟨_, kvs, h⟩ <;> (rw [h] at e; cases e)
theorem AtK.dT (h : AtK mg G p t) (ht : t ≠ 1) {xs : List (List Key × V)} (e : G p = some (.dT xs)) : False := by
  rcases h with ⟨h1, kvs, h⟩ | ⟨h1, kvs, h⟩
  · exact ht h1
  · rw [h] at e; cases e
variable (hk : AtK mg G p t) (hm : ∀ a u, a ≠ p → G a = some u → G' a = some u)
include hk hm
end
open Classical in
def ownAt (env : Env) (σ : St) (i : Nat) (a : Addr) : Prop := ∃ j, j ≠ i ∧ isOw env[j]? = true ∧ σ[j]? = some (some (.ref a))
open Classical in
noncomputable def hB (H : Hp) (env : Env) (σ : St) (i : Nat) : Hp := fun a => if ownAt env σ i a then none else H a
open Classical in
section
variable {mg : Gm} {H0 H : Hp} {M0 M : Addr → Bool} {σ : St} {env : Env} {i t : Nat} {p : Addr} {es : List (D × D)}
open Classical in
end
end VL

set_option maxRecDepth 100000
set_option maxHeartbeats 2000000
set_option autoImplicit false
namespace VL
open PySem L2
section
variable {X : Cx} {W : WX} {i : Nat} {st : Stmt} {sts : List Stmt} {e : Expr} {pos : Pos} {ψ χ : Env → SRes} {φ : Env → Res VL.D} {fla : Bool}
end
end VL

set_option maxRecDepth 100000
set_option maxHeartbeats 2000000
set_option autoImplicit false
namespace VL
open PySem L2 PySem.Spec PyProof.Rows

section
variable {X : Cx} {W : WX} {fl fla : Bool}
end
end VL

set_option maxRecDepth 100000
set_option maxHeartbeats 2000000
set_option autoImplicit false
namespace VL
open PySem L2
section
variable {X : Cx} {W : WX} {tg iter : Expr} {sts sts' : List Stmt} {pos : Pos} {γ : D → Env → Option Env} {ψ χ : Env → SRes} {ι : Env → Res (List D)}
end
section
open PySem.Spec PyProof.Rows
variable {X : Cx} {W : WX} {e : Expr} {pos apos cpos p : Pos} {φ : Env → Res VL.D}
end
end VL

set_option maxRecDepth 100000
set_option maxHeartbeats 2000000
set_option autoImplicit false
namespace VL
open PySem L2
section
variable {X : Cx} {W : WX} {e : Expr} {td : TE} {sts : List Stmt} {pos apos cpos tpos : Pos} {elts : List Expr} {kk : Nat} {γ : D → Env → Option Env} {ψ : Env → SRes} {φ : Env → Res VL.D}
end
end VL

set_option maxRecDepth 100000
set_option maxHeartbeats 2000000
set_option autoImplicit false
namespace VL
open PySem L2
section
variable {X : Cx} {W : WX} {a b : Expr} {pos px py pt pt2 : Pos} {kt k2 : Nat} {φs : Env → Res (List D)}
end
end VL

set_option maxRecDepth 100000
set_option maxHeartbeats 2000000
set_option autoImplicit false
namespace VL
open PySem L2 PyProof.Rows
section
variable {X : Cx} {W : WX} {tg elt iter : Expr} {ifs : List Expr} {scope : Scope} {own : List (Str × Nat)} {pos spos py : Pos} {γ : D → Env → Option Env} {τ : Env → Res Bool} {φ κ : Env → Res D}
end
end VL

set_option maxRecDepth 100000
set_option maxHeartbeats 2000000
set_option autoImplicit false
namespace VL
open PySem L2 PyProof.Rows
def spIt (gm : Gm) (F : List D → Res D) (n : Nat) : Sp := fun vs H Q _ => vs.length = 1 ∧ ∃ (M : Addr → Bool) (ds es : List D), MOk M H ∧ RpL gm (Sh M (vw H)) ds vs ∧ F ds = .ok (.lst es) ∧
  ∀ (l it : Addr) (zs : List V) (H1 : Hp), Ext H H1 → Sh M (vw H1) l = some (.lst zs) → RpL gm (Sh M (vw H1)) es zs → H1 it = none → n ≤ it → Q (.ref it) (upd H1 it (ItO l it 0))
section
variable {X : Cx} {W : WX} {e : Expr} {p pos rpos : Pos} {φ : Env → Res D}
end
def FnI (P : Program) (w : World) (K : PySem.W.Frag) (mg : Str → Option Value) (base : Heap) (k : Nat) (f : Addr) (fd : FuncData) (ps : List Str) (sp : Nat → Sp) : Prop :=
  ∀ (n : Nat) (A : Around) (outer : List PySem.Env) (s : Shared) (H : Hp) (args : Args) (us : List Value) (vs : List V) (Q : VK) (E : XK), n ≤ s.heap.objs.size → Room k A → Env0 P w K mg base A outer s H → BindsTo s fd args (ps.zip us) → Vals vs us → sp n vs H Q E →
    codeAny (model P w) A (.call (.ref f) args) (CR (L2N.CX P w) outer P w H s Q E) s
structure IterOk (P : Program) (w : World) (K : PySem.W.Frag) (mg : Str → Option Value) (base : Heap) (c : Str) (k : Nat) (ps : List Str) (F : List D → Res D) : Prop where
  ex : ps.length = 1 ∧ ∃ (C f : Addr) (fd : FuncData), mg c = some (.ref C) ∧ Cls K C ∧ Meth K C "__iter__" f ∧ Binds K fd ps [] ∧ FnI P w K mg base k f fd ps (spIt ⟨P, w, K, mg⟩ F)
section
variable {P : Program} {w : World} {K : PySem.W.Frag} {mg : Str → Option Value} {base : Heap} {c x qual : Str} {st : Stmt} {N ps : List Str} {k : Nat} {f : Addr} {fd : FuncData} {sp : Nat → Sp}
end
section
variable {X : Cx} {C f : Addr} {k : Nat} {fd : FuncData} {ps : List Str} {sp : Nat → Sp} {o tg : Expr} {ta : TE}
end
section
variable {X : Cx} {W : WX} {o tg : Expr} {φ : Env → Res D} {c : Str} {k : Nat} {ps : List Str} {F : List D → Res D}
end
end VL

set_option maxRecDepth 100000
set_option maxHeartbeats 2000000
set_option autoImplicit false
namespace VL
open PySem L2 PyProof.Rows
section
variable {M : Model} {A : Around} {R : GenEnd} {Y : Protocol} {n : Nat} {s₀ s : Shared} {c : Code} {fs : List Frame} {env : PySem.Env} {K : Flow → Sem PySem.Fin} {J : Value → Sem PySem.Fin} {gd : Bool → Bool} {lv : List Value → List Value}
abbrev behind (env : PySem.Env) (K : Flow → Sem PySem.Fin) (J : Value → Sem PySem.Fin) (gd : Bool → Bool) (lv : List Value → List Value) (c : Code) (p : Pos) : Frame :=
  .ret (fun r => ((match r with | .ok f => (.pure f : Sem Flow) | .error e => .raise e).onRaise (cameBack env)).wrap K J gd lv) none (gd false) (lv []) c p []
theorem seg_forS {tg iter : Expr} {body : List Stmt} {pos : Pos} (hs : ∀ x, foldedSetIterable iter env x = pure x)
    (h : wpAny M (A.over c fs) (eval iter env) (fun x s1 => wpAny M (A.over c fs) (pyIter x) (fun it s2 => ∀ p, Seg M A R Y n s₀ (.forLoop tg it body [] env) (M.den (.forLoop tg it body [] env)) (behind env K J gd lv c p :: fs) s2)
      (fun e s' => Seg M A R Y n s₀ c (J e) fs s') s1) (fun e s' => Seg M A R Y n s₀ c (J e) fs s') s) :
    Seg M A R Y n s₀ c ((exec (.For tg iter body [] pos) env).wrap K J gd lv) fs s := by
  rw [exec_For]
  refine seg_bind_wrap (wpAny_standAt ?_)
  refine seg_bind_wrap (wpAny_mono h (fun x s1 h1 => ?_) fun _ _ z => z)
  refine seg_bind_wrap (wpAny_of_eq (hs x) ?_)
  refine seg_bind_wrap (wpAny_standAt ?_)
  refine seg_bind_wrap (wpAny_holding (wpAny_mono h1 (fun it s2 h2 => ?_) fun _ _ z => z))
  exact seg_call h2
end
section
variable {prog : Program} {w : World} {A : Around} {R : GenEnd} {Y : Protocol} {n : Nat} {s₀ s : Shared} {fs : List Frame} {env : PySem.Env} {tg : Expr} {it : Value} {body : List Stmt}
def turnEnd (tg : Expr) (it : Value) (body : List Stmt) (env : PySem.Env) : Flow → Sem PySem.Fin := fun f => match f with
  | .next | .cont => .pure (.again (.forLoop tg it body [] env))
  | .brk => .pure (.done .next)
  | .ret v => .pure (.done (.ret v))
abbrev turnBad (env : PySem.Env) : Value → Sem PySem.Fin := fun x => (do noteFrame x env; theTreesLotGoes x : Sem Unit).wrap (fun _ => .raise x) .raise id id
theorem seg_turn (h : wpAny (model prog w) (A.over (.forLoop tg it body [] env) fs) (pyNext it) (fun r s1 => match r with
      | none => Seg (model prog w) A R Y n s₀ (.block [] env) ((model prog w).den (.block [] env)) fs s1
      | some v => wpAny (model prog w) (A.over (.forLoop tg it body [] env) fs) (letOwnedTupleGo tg it v) (fun _ s2 => wpAny (model prog w) (A.over (.forLoop tg it body [] env) fs) (assign tg env v)
          (fun _ s3 => Seg (model prog w) A R Y n s₀ (.forLoop tg it body [] env) ((execs body env).wrap (turnEnd tg it body env) (turnBad env) id id) fs s3) (fun _ _ => False) s2) (fun _ _ => False) s1) (fun _ _ => False) s) :
    Seg (model prog w) A R Y n s₀ (.forLoop tg it body [] env) ((model prog w).den (.forLoop tg it body [] env)) fs s := by
  show Seg _ A R Y n s₀ _ ((forTurn tg it body [] env).onRaise (fun x => do noteFrame x env; theTreesLotGoes x)) fs s
  unfold forTurn
  rw [Sem.onRaise_eq_wrap]
  refine seg_bind_wrap (wpAny_standAt ?_)
  refine seg_bind_wrap (wpAny_onRaise (wpAny_mono h (fun r s1 h1 => ?_) fun _ _ z => z.elim))
  cases r with
  | none => exact seg_again rfl h1
  | some v =>
    refine seg_bind_wrap (wpAny_mono h1 (fun _ s2 h2 => ?_) fun _ _ z => z.elim)
    refine seg_bind_wrap (wpAny_mono h2 (fun _ s3 h3 => ?_) fun _ _ z => z.elim)
    rw [Sem.bind_eq_wrap', Sem.wrap_wrap]
    rw [Sem.wrap_congr (execs body env) _ _ (K' := turnEnd tg it body env) (H' := turnBad env) (fun f => by cases f <;> rfl)
      (fun e => by first | exact Sem.bind_eq_wrap _ _ | (show (do noteFrame e env; theTreesLotGoes e : Sem Unit).bind (fun _ => .raise e) = _; rw [Sem.bind_eq_wrap]))]
    exact h3
theorem seg_block0 (h : Seg (model prog w) A R Y n s₀ (.block [] env) (.pure (.done .next)) fs s) : Seg (model prog w) A R Y n s₀ (.block [] env) ((model prog w).den (.block [] env)) fs s := by
  show Seg _ A R Y n s₀ _ (do return Fin.done (← (execs [] env).onRaise (fun x => do noteFrame x env; theTreesLotGoes x))) fs s
  exact seg_bind (wpAny_onRaise (wpAny_execs_nil h))
end
def Held (ys : List V) (o : Obj) : Prop := ∃ (acc : Array Value) (c : Nat), o = lstObj acc c ∧ Vals ys acc.toList
def GQ (X : Cx) (C D : Addr) (ys : List V) (sw : Shared) (ip : List (Addr × Obj)) (σ : L2.St) (H : Hp) (s : Shared) : Prop :=
  ∃ oC oD, sw.heap.get? C = some oC ∧ sw.heap.get? D = some oD ∧ Held ys oD ∧ Inv X ((C, oC) :: (D, oD) :: ip) σ H s
def IpOk (X : Cx) (C D : Addr) (ip : List (Addr × Obj)) : Prop := ∀ p ∈ ip, X.s_0.heap.objs.size ≤ p.1 ∧ p.1 ≠ C ∧ p.1 ≠ D ∧ ∀ q ∈ X.pn, q.1 ≠ p.1
structure GE where
  N : Nat
  nx : List V → L2.St → Hp → Prop
  rt : List V → V → Hp → Prop
  bk : List V → L2.St → Hp → Prop := fun _ _ _ => False
  ct : List V → L2.St → Hp → Prop := fun _ _ _ => False
def GE.at (E : GE) (ys : List V) : Ends := { nx := E.nx ys, rt := E.rt ys, bk := E.bk ys, ct := E.ct ys }
def GYq (X : Cx) (C D : Addr) (N : Nat) : Protocol := fun n s₀ v s kap =>
  ∃ ys x ip σ H, n + 1 + ys.length = N ∧ RelV x v ∧ IpOk X C D ip ∧ GQ X C D ys s₀ ip σ H s ∧ ∀ s', GQ X C D (ys ++ [x]) s' ip σ H s' → kap (.send .none) s'
def GPq (X : Cx) (C D : Addr) (sw : Shared) (ip : List (Addr × Obj)) (E : GE) (ys : List V) (f : Flow) (s : Shared) : Prop := match f with
  | .next => ∃ σ H, GQ X C D ys sw ip σ H s ∧ E.nx ys σ H
  | .brk => ∃ σ H, GQ X C D ys sw ip σ H s ∧ E.bk ys σ H
  | .cont => ∃ σ H, GQ X C D ys sw ip σ H s ∧ E.ct ys σ H
  | .ret u => ∃ v σ H, GQ X C D ys sw ip σ H s ∧ RelV v u ∧ E.rt ys v H
structure GCq (X : Cx) (A : Around) (c : Code) (fs : List Frame) (gd : Bool → Bool) : Prop where
  over : A.over c fs = X.A
  split : splitAtGen fs = none
  guard : fs.any Frame.guarded = false
  gd : gd false = false
  nox : ∀ e s, ¬ X.xe e s
  ex : X.ex = []
abbrev TGq := GE → List V → L2.St → Hp → Prop
structure GSq (X : Cx) (st : Stmt) (t : TGq) : Prop where
  run : ∀ (A : Around) (C D : Addr) (ip : List (Addr × Obj)) (R : GenEnd) (n : Nat) (ys : List V) (s₀ : Shared) (c : Code) (fs : List Frame) (K : Flow → Sem PySem.Fin) (J : Value → Sem PySem.Fin) (gd : Bool → Bool) (lv : List Value → List Value) (s : Shared) (σ : L2.St) (H : Hp) (E : GE),
    GCq X A c fs gd → IpOk X C D ip → n + ys.length = E.N → (∀ n ys s₀ s f, n + ys.length = E.N → GPq X C D s₀ ip E ys f s → Seg (model X.prog X.w) A R (GYq X C D E.N) n s₀ c (K f) fs s) → GQ X C D ys s₀ ip σ H s → t E ys σ H →
    Seg (model X.prog X.w) A R (GYq X C D E.N) n s₀ c ((exec st X.env).wrap K J gd lv) fs s
structure GSsq (X : Cx) (st : List Stmt) (t : TGq) : Prop where
  run : ∀ (A : Around) (C D : Addr) (ip : List (Addr × Obj)) (R : GenEnd) (n : Nat) (ys : List V) (s₀ : Shared) (c : Code) (fs : List Frame) (K : Flow → Sem PySem.Fin) (J : Value → Sem PySem.Fin) (gd : Bool → Bool) (lv : List Value → List Value) (s : Shared) (σ : L2.St) (H : Hp) (E : GE),
    GCq X A c fs gd → IpOk X C D ip → n + ys.length = E.N → (∀ n ys s₀ s f, n + ys.length = E.N → GPq X C D s₀ ip E ys f s → Seg (model X.prog X.w) A R (GYq X C D E.N) n s₀ c (K f) fs s) → GQ X C D ys s₀ ip σ H s → t E ys σ H →
    Seg (model X.prog X.w) A R (GYq X C D E.N) n s₀ c ((execs st X.env).wrap K J gd lv) fs s
section
variable {X : Cx} {st : Stmt} {rest : List Stmt}
theorem gq_nil : GSsq X [] (fun E ys σ H => E.nx ys σ H) := by
  refine ⟨fun A C D ip R n ys s₀ c fs K J gd lv s σ H E g hip hn k hI ht => seg_execs_nil ?_⟩
  exact k n ys s₀ s .next hn ⟨σ, H, hI, ht⟩
theorem gq_cons {t u : TGq} (a : GSq X st t) (b : GSsq X rest u) : GSsq X (st :: rest) (fun E ys σ H => t { E with nx := fun ys' σ' H' => u E ys' σ' H' } ys σ H) := by
  refine ⟨fun A C D ip R n ys s₀ c fs K J gd lv s σ H E g hip hn k hI ht => seg_execs_cons ?_⟩
  refine a.run A C D ip R n ys s₀ c fs _ J gd lv s σ H { E with nx := fun ys' σ' H' => u E ys' σ' H' } g hip hn (fun n' ys' s₀' s' f hn' hf => ?_) hI ht
  cases f with
  | ret v => exact k n' ys' s₀' s' (.ret v) hn' hf
  | brk => exact k n' ys' s₀' s' .brk hn' hf
  | cont => exact k n' ys' s₀' s' .cont hn' hf
  | next =>
    obtain ⟨σ', H', I', q⟩ := hf
    exact b.run A C D ip R n' ys' s₀' c fs K J gd lv s' σ' H' E g hip hn' k I' q
theorem gq_yield {e : Expr} {te : TE} {yp pos : Pos} (he : PE X e te) (hco : X.env.scope.isCoroutine = false := by rfl) (hi : interactive X.env = false := by rfl) :
    GSq X (.Expr (.Yield (some e) yp) pos) (fun E ys σ H => ys.length < E.N ∧ te σ H fun x H1 => E.nx (ys ++ [x]) σ H1) := by
  refine ⟨fun A C D ip R n ys s₀ c fs K J gd lv s σ H E g hip hn k hI ht => ?_⟩
  obtain ⟨hlt, ht⟩ := ht
  obtain ⟨m, rfl⟩ : ∃ m, n = m + 1 := ⟨n - 1, by omega⟩
  obtain ⟨oC, oD, h1, h2, h3, I⟩ := hI
  refine seg_Expr_Yield g.split g.gd g.guard ?_ hco hi
  rw [g.over]
  refine wpAny_mono (he.run _ s σ H _ I ht) (fun v s' hv => ?_) fun x s' hx => (g.nox x s' hx).elim
  obtain ⟨x, H1, I1, rv, q2⟩ := hv
  intro kap hk
  refine ⟨ys, x, ip, σ, H1, hn, rv, hip, ⟨oC, oD, h1, h2, h3, I1⟩, fun s2 z => hk .none s2 ?_⟩
  exact k m (ys ++ [x]) s2 s2 .next (by rw [List.length_append, List.length_singleton]; omega) ⟨σ, H1, z, q2⟩
def tForQ (wi : TI) (g : TG) (tb : TGq) : TGq := fun E ys σ H => wi σ H fun J H1 => ∃ W : Nat → Nat → List V → L2.St → Hp → Prop, (∃ m, W 0 m ys σ H1) ∧ ∀ j m ys σ H, W j m ys σ H →
  (J.stop j H ∧ E.nx ys σ H) ∨ (J.go j H ∧ ∃ N : List V → L2.St → Hp → Prop, (∀ ys' σ' H', N ys' σ' H' → ∃ m', m' < m ∧ W (j + 1) m' ys' σ' H') ∧ ∀ x H', J.yld j H x H' → g x σ H' fun σ2 H2 => tb { E with nx := N, ct := N, bk := E.nx } ys σ2 H2)
theorem gq_for {tg iter : Expr} {body : List Stmt} {pos : Pos} {wi : TI} {g : TG} {tb : TGq} (hc : X.calm = true) (hi : PI X tg iter wi) (hg : PG X tg g) (hb : GSsq X body tb) (hs : ∀ x, foldedSetIterable iter X.env x = pure x := by intro _; rfl) : GSq X (.For tg iter body [] pos) (tForQ wi g tb) := by
  refine ⟨fun A C D ip R n ys s₀ c fs K J gd lv s σ H E gc hip hn k hI ht => ?_⟩
  obtain ⟨oC, oD, h1, h2, h3, I⟩ := hI
  refine seg_forS hs ?_
  rw [gc.over]
  refine wpAny_mono (hi.run _ s σ H _ I ht) (fun xv s1 hx => ?_) fun x s' hx => (gc.nox x s' hx).elim
  refine wpAny_mono hx (fun itv s2 h3' => ?_) fun x s' hx => (gc.nox x s' hx).elim
  obtain ⟨it, fp, tn, Jt, H2, e, I2, T, st2, f2, W, ⟨m0, w0⟩, turn⟩ := h3'
  subst e
  intro p
  have fpk : ∀ {H' : Hp} {pC pD : Obj}, (∀ b ∈ fp, H' b = none) → ∀ b ∈ fp, FpOk X ((C, pC) :: (D, pD) :: ip) H' b := fun {H' pC pD} hz b hb => by
    obtain ⟨_, q1, q2, q3, q4, q5⟩ := f2 b hb
    refine ⟨hz b hb, q1, q2, q3, q4, fun x hx => ?_⟩
    rcases List.mem_append.mp hx with hx | hx
    · exact q5 x (List.mem_append_left _ hx)
    · rcases List.mem_cons.mp hx with hx | hx
      · rw [hx]; exact q5 (C, oC) (List.mem_append_right _ (List.mem_cons_self ..))
      · rcases List.mem_cons.mp hx with hx | hx
        · rw [hx]; exact q5 (D, oD) (List.mem_append_right _ (List.mem_cons_of_mem _ (List.mem_cons_self ..)))
        · exact q5 x (List.mem_append_right _ (List.mem_cons_of_mem _ (List.mem_cons_of_mem _ hx)))
  have ov : A.over (.forLoop tg (.ref it) body [] X.env) (behind X.env K J gd lv c p :: fs) = X.A := (GenW.over_loop rfl rfl).trans gc.over
  have gl : GCq X A (.forLoop tg (.ref it) body [] X.env) (behind X.env K J gd lv c p :: fs) id := {
    over := ov
    split := by
      show (splitAtGen fs).map _ = none
      rw [gc.split]; rfl
    guard := by
      show (gd false || fs.any Frame.guarded) = false
      rw [gc.gd, gc.guard]; rfl
    gd := rfl
    nox := gc.nox
    ex := gc.ex }
  have loop : ∀ (m j n : Nat) (ys : List V) (s₀ s : Shared) (σ : L2.St) (H : Hp), n + ys.length = E.N → GQ X C D ys s₀ ip σ H s → tn j s.heap → (∀ b ∈ fp, H b = none) → W j m ys σ H →
      Seg (model X.prog X.w) A R (GYq X C D E.N) n s₀ (.forLoop tg (.ref it) body [] X.env) ((model X.prog X.w).den (.forLoop tg (.ref it) body [] X.env)) (behind X.env K J gd lv c p :: fs) s := by
    intro m
    induction m using Nat.strongRecOn with
    | ind m ih =>
      intro j n ys s₀ s σ H hn hI st hz w
      obtain ⟨pC, pD, e1, e2, e3, I⟩ := hI
      refine seg_turn ?_
      rw [ov]
      rcases turn j m ys σ H w with ⟨stop, qn⟩ | ⟨go, N, hN, step⟩
      · refine wpAny_mono (T.done X rfl rfl rfl hc j _ s σ H (fun _ _ => False) I (fpk hz) st stop) (fun r s3 hr => ?_) fun _ _ z => z
        obtain ⟨rfl, I3⟩ := hr
        refine seg_block0 ?_
        exact seg_leaf (.ok .next) (k n ys s₀ s3 .next hn ⟨σ, H, ⟨pC, pD, e1, e2, e3, I3⟩, qn⟩)
      · refine wpAny_mono (T.item X rfl rfl rfl hc j _ s σ H (fun _ _ => False) I (fpk hz) st go) (fun r s3 hr => ?_) fun _ _ z => z
        obtain ⟨u, rfl, h4⟩ := hr
        refine wpAny_mono h4 (fun _ s5 h5 => ?_) fun _ _ z => z
        obtain ⟨x, H5, I5, r5, y5, st5, z5⟩ := h5
        have I5' := I5.pinned (fpk z5) (T.obj _ _ st5)
        refine wpAny_mono (hg.run _ s5 σ H5 x u _ I5' r5 (step x H5 y5)) (fun _ s6 h6 => ?_) fun x s' hx => (gc.nox x s' hx).elim
        obtain ⟨σ6, H6, I6, q6⟩ := h6
        have hip' : IpOk X C D (ip ++ pinsAt fp s5.heap) := fun q hq => by
          rcases List.mem_append.mp hq with hq | hq
          · exact hip q hq
          · obtain ⟨hb', _⟩ := of_pinsAt hq
            obtain ⟨_, _, _, q3, _, q5⟩ := fpk (pC := oC) (pD := oD) z5 q.1 hb'
            refine ⟨q3.resolve_left (by rw [gc.ex]; exact fun z => nomatch z), fun z => ?_, fun z => ?_, fun x hx => q5 x (List.mem_append_left _ hx)⟩
            · exact q5 (C, oC) (List.mem_append_right _ (List.mem_cons_self ..)) z.symm
            · exact q5 (D, oD) (List.mem_append_right _ (List.mem_cons_of_mem _ (List.mem_cons_self ..))) z.symm
        refine hb.run A C D (ip ++ pinsAt fp s5.heap) R n ys s₀ _ _ _ _ id id s6 σ6 H6 { E with nx := N, ct := N, bk := E.nx } gl hip' hn (fun n' ys' s₀' s7 f hn' hf => ?_) ⟨pC, pD, e1, e2, e3, I6⟩ q6
        have again : ∀ {σ7 : L2.St} {H7 : Hp}, GQ X C D ys' s₀' (ip ++ pinsAt fp s5.heap) σ7 H7 s7 → N ys' σ7 H7 →
            Seg (model X.prog X.w) A R (GYq X C D E.N) n' s₀' (.forLoop tg (.ref it) body [] X.env) (.pure (.again (.forLoop tg (.ref it) body [] X.env))) (behind X.env K J gd lv c p :: fs) s7 := fun {σ7 H7} hG hN7 => by
          obtain ⟨m', hm, w7⟩ := hN ys' σ7 H7 hN7
          obtain ⟨rC, rD, d1, d2, d3, I7⟩ := hG
          have pin : ∀ b ∈ fp, ∀ o, s5.heap.get? b = some o → s7.heap.get? b = some o ∧ H7 b = none := fun b hb o eo => by
            have z := I7.pin (b, o) (List.mem_append_right _ (List.mem_cons_of_mem _ (List.mem_cons_of_mem _ (List.mem_append_right _ (mem_pinsAt hb eo)))))
            exact ⟨z.1, z.2.1⟩
          refine seg_again rfl (ih m' hm (j + 1) n' ys' s₀' s7 σ7 H7 hn' ⟨rC, rD, d1, d2, d3, Inv.unpinned (pl := pinsAt fp s5.heap) I7⟩ (T.keep _ _ _ st5 fun b hb o eo => (pin b hb o eo).1) (fun b hb => ?_) w7)
          obtain ⟨o, eo, _⟩ := T.obj _ _ st5 b hb
          exact (pin b hb o eo).2
        have un : ∀ {σ7 : L2.St} {H7 : Hp}, GQ X C D ys' s₀' (ip ++ pinsAt fp s5.heap) σ7 H7 s7 → GQ X C D ys' s₀' ip σ7 H7 s7 := fun {σ7 H7} hG => by
          obtain ⟨rC, rD, d1, d2, d3, I7⟩ := hG
          exact ⟨rC, rD, d1, d2, d3, Inv.unpinned (pl := pinsAt fp s5.heap) I7⟩
        cases f with
        | next =>
          obtain ⟨σ7, H7, G7, q7⟩ := hf
          exact again G7 q7
        | cont =>
          obtain ⟨σ7, H7, G7, q7⟩ := hf
          exact again G7 q7
        | brk =>
          obtain ⟨σ7, H7, G7, q7⟩ := hf
          exact seg_leaf (.ok .next) (k n' ys' s₀' s7 .next hn' ⟨σ7, H7, un G7, q7⟩)
        | ret v =>
          obtain ⟨x7, σ7, H7, G7, r7, q7⟩ := hf
          exact seg_leaf (.ok (.ret v)) (k n' ys' s₀' s7 (.ret v) hn' ⟨x7, σ7, H7, un G7, r7, q7⟩)
  exact loop m0 0 n ys s₀ s2 σ H2 hn ⟨oC, oD, h1, h2, h3, I2⟩ st2 (fun b hb => (f2 b hb).1) w0
end
end VL

set_option maxRecDepth 100000
set_option maxHeartbeats 2000000
set_option autoImplicit false
namespace VL
open PySem L2 PyProof.Rows
def gxq (P : Program) (w : World) (K : PySem.W.Frag) (mg : Str → Option Value) (base : Heap) (N : List Str) (qual : Str) (scope : Scope) (f : Addr) (cd : Value) (A : Around) (outer : List PySem.Env) (s : Shared) (H : Hp) (pn : List (Addr × Obj)) : Cx :=
  { cxOf (L2N.CX P w) P w K mg base N qual scope f cd A outer s H (fun _ _ _ => False) with pn := pn, xe := fun _ _ => False }
theorem cells0 : ∀ {names : List (Str × NameKind)} {n : Nat} {acc : List (Str × Addr)}, (∀ y ∈ names, y.2 ≠ .cell) → cellsFrom n names acc = acc
  | [], _, _, _ => rfl
  | (x, k) :: r, n, acc, h => by
    unfold cellsFrom
    have hk : ¬ (k == NameKind.cell) = true := fun z => h (x, k) (List.mem_cons_self ..) (by simpa using z)
    rw [if_neg hk]
    exact cells0 fun y hy => h y (List.mem_cons_of_mem _ hy)
section
variable {P : Program} {w : World} {K : PySem.W.Frag} {mg : Str → Option Value} {base : Heap} {N ps : List Str} {qual : Str} {scope : Scope} {f : Addr} {cd : Value} {A : Around} {outer : List PySem.Env} {s s2 : Shared} {H : Hp} {us : List Value} {vs : List V} {pn pins : List (Addr × Obj)}
theorem invq (S : GScope N ps scope) (nc : ∀ y ∈ scope.names, y.2 ≠ .cell) (hd : A.handled = none) (e0 : Env0 P w K mg base A outer s H) (hl : vs.length = ps.length) (r : Vals vs us) (kp : ∀ b o, s.heap.get? b = some o → s2.heap.get? b = some o)
    (hns : s2.heap.Ns s.heap.objs.size fun y => (ps.zip us).reverse.lookup y) (os : s2.os = s.os) (bare : AllBare s2.gens) (hp : ∀ p ∈ pn ++ pins, s2.heap.get? p.1 = some p.2 ∧ H p.1 = none ∧ p.1 ≠ s.heap.objs.size ∧ p.1 ∉ frs outer ∧ ∀ v, p.2.data ≠ .cell v) :
    Inv (gxq P w K mg base N qual scope f cd A outer s H pn) pins (L2.start N vs) H s2 := by
  have hpl : ps.length ≤ N.length := by
    have q := congrArg List.length S.pre
    rw [List.length_take] at q
    omega
  have ec : (gxq P w K mg base N qual scope f cd A outer s H pn).env.cells = [] := cells0 nc
  have noC : ∀ {y : Str} {c : Addr} {Q : Prop}, (gxq P w K mg base N qual scope f cd A outer s H pn).env.cells.lookup y = some c → Q := fun {y c Q} h => by
    rw [ec] at h
    cases h
  have noX : ∀ {b : Addr} {Q : Prop}, b ∈ (gxq P w K mg base N qual scope f cd A outer s H pn).ex → Q := fun {b Q} h => absurd (show b ∈ ([] : List Addr) from h) (by simp)
  have okx : (gxq P w K mg base N qual scope f cd A outer s H pn).Ok := {
    mod := e0.mod
    kind := S.kind
    glob := rfl
    blt := rfl
    above := Nat.le_refl _
    inj := fun y z c h1 _ => noC h1
    has := fun y hy => by
      have hy : scope.names.lookup y = some .cell ∨ scope.names.lookup y = some .free := hy
      rcases hy with hy | hy
      · exact absurd rfl (nc _ (PySem.mem_of_lookup hy))
      · exact absurd rfl (S.nofree _ (PySem.mem_of_lookup hy))
    cab := fun y c _ h => noC h
    hd := fun _ => hd
    frames := Around.frames_deeper e0.frames
    stk := .inr ⟨rfl, rfl⟩
    exf := fun b z => noX z
    bs := e0.bs
    bsz := e0.bsz
    noex := fun b o _ z => noX z
    exfs := fun b z => noX z
    funs := e0.funs
    frf := e0.frf }
  refine ⟨okx, os, bare, Un.kept kp, ⟨_, hns, fun i y v h1 h2 h3 => ?_⟩, fun y c h => noC h, e0.hok.fresh (Nat.le_refl _), fun y c h => noC h, hp, e0.hok.kept kp, ?_⟩
  · have hi : i < vs.length := by
      unfold L2.start at h2
      by_cases hi : i < vs.length
      · exact hi
      · rw [List.getElem?_append_right (by simpa using hi), List.getElem?_replicate] at h2
        split at h2 <;> cases h2
    have ha : vs[i]? = some v := by
      unfold L2.start at h2
      rw [List.getElem?_append_left (by simpa using hi), List.getElem?_map] at h2
      cases e : vs[i]? with
      | none => rw [e] at h2; cases h2
      | some a =>
        rw [e] at h2
        cases h2
        rfl
    obtain ⟨u, hu, rv⟩ := r.get ha
    have h1 : N[i]? = some y := h1
    have hpy : ps[i]? = some y := by
      rw [← S.pre, List.getElem?_take_of_lt (by omega)]
      exact h1
    have ndP : ps.Nodup := by
      rw [← S.pre]
      exact S.nd.sublist (List.take_sublist _ _)
    refine ⟨u, rv, .inl ⟨?_, NdefX.zip_look ndP hpy hu⟩⟩
    rcases S.par y (List.mem_of_getElem? hpy) with q | q
    · exact q
    · exact absurd rfl (nc _ (PySem.mem_of_lookup q))
  · show (L2.start N vs).length = N.length
    unfold L2.start
    rw [List.length_append, List.length_map, List.length_replicate]
    omega
end
def MadeQ (body : List Stmt) (qual : Str) (scope : Scope) (f : Addr) (cd : Value) (ps : List Str) (us : List Value) (s : Shared) (r : Result) (s' : Shared) : Prop :=
  ∃ (h1 : Heap) (go : Obj) (nm qn : Value) (tk : Nat), r = .ok (.ret (.ref h1.objs.size)) ∧ Heap.SameBut s.heap.objs.size (s.heap.push { cls := .type "frame", data := .dict #[] }) h1 ∧ (h1.Ns s.heap.objs.size fun y => (ps.zip us).reverse.lookup y) ∧ h1.NoLimit ∧
    go.cls = .type "generator" ∧ go.data = .fields #[.int s.gens.size 0, nm, qn] ∧ go.slots = #[] ∧ (∀ h : Heap, (h.push go).get? h.objs.size = some go) ∧
    s' = { s with gens := s.gens.push (.fresh (.func body (envOfC qual scope s.heap.objs.size f cd))), toks := tk, heap := h1.push go }
structure GFnq (P : Program) (w : World) (K : PySem.W.Frag) (mg : Str → Option Value) (base : Heap) (k : Nat) (f : Addr) (fd : FuncData) (ps : List Str) (body : List Stmt) (qual : Str) (scope : Scope) (cd : Value) : Prop where
  run : ∀ (A : Around) (outer : List PySem.Env) (s : Shared) (H : Hp) (args : Args) (us : List Value) (vs : List V), Room k A → Env0 P w K mg base A outer s H → BindsTo s fd args (ps.zip us) → Vals vs us → vs.length = ps.length →
    codeAny (model P w) A (.call (.ref f) args) (MadeQ body qual scope f cd ps us s) s
theorem gfnq_of {P : Program} {w : World} {K : PySem.W.Frag} {mg : Str → Option Value} {base : Heap} {x qual : Str} {st : Stmt} {f : Addr} {fd : FuncData} {N ps : List Str} {k : Nat} (F : Fun K x qual st f fd) (S : GScope N ps (defScope st)) (nc : ∀ y ∈ (defScope st).names, y.2 ≠ .cell) :
    ∃ cd, PySem.W.codeIn K cd qual = true ∧ GFnq P w K mg base k f fd ps (defBody st) qual (defScope st) cd := by
  obtain ⟨oc, od, kV, doc, pm, an, cdv, ct, osl, rfl, lk, hcd⟩ := F.ex
  refine ⟨cdv, hcd, ⟨fun A outer s H args us vs hr e0 hb r hl => ?_⟩⟩
  have inS : ∀ b o, base.get? b = some o → s.heap.get? b = some o := fun b o e => (e0.bs b o e).1
  have KX : K.In s.heap := (e0.mod.kin).keeps inS
  have lim : s.heap.NoLimit := (e0.mod.nolimit).keeps inS
  refine codeAny_call_generator (hr.depth) (KX _ _ lk) rfl S.co S.gen rfl (PySem.W.codeRec_of KX hcd) (hb _ _ _ _ ?_)
  refine wpAny_newFunctionEnv nc (fun y hy => ?_) (fun h1 hns hsb => ?_) S.kind
  · obtain ⟨y1, y2⟩ := y
    rcases S.par y1 (List.of_mem_zip hy).1 with q | q
    · exact q
    · exact absurd rfl (nc _ (PySem.mem_of_lookup q))
  · have lim1 : h1.NoLimit := lim.fresh _ hsb
    refine ⟨lim1, h1, ?go, ?nm, ?qn, ?tk, rfl, hsb, hns, lim1, ?c1, ?c2, ?c3, ?c4, ?e⟩
    case e =>
      unfold envOfC newEnv
      rw [cells0 nc]
    case c1 => rfl
    case c2 => rfl
    case c3 => rfl
    case c4 => exact fun h => Heap.get?_push_size _ rfl
end VL

set_option maxRecDepth 100000
set_option maxHeartbeats 2000000
set_option autoImplicit false
namespace VL
open PySem L2 PyProof.Rows GenW
structure Far (X : Cx) (C D : Addr) : Prop where
  ne : C ≠ D
  c0 : X.s_0.heap.objs.size ≤ C
  d0 : X.s_0.heap.objs.size ≤ D
  cl : C ≠ X.env.locals
  dl : D ≠ X.env.locals
  cc : ∀ x c, X.env.cells.lookup x = some c → c ≠ C ∧ c ≠ D
  pc : ∀ p ∈ X.pn, p.1 ≠ C ∧ p.1 ≠ D
section
variable {X : Cx} {C D : Addr} {ys : List V} {sw s s' : Shared} {ip : List (Addr × Obj)} {σ : L2.St} {H : Hp} {x : V}
theorem GQ.at (h : GQ X C D ys sw ip σ H s) : (∃ oC, sw.heap.get? C = some oC ∧ s.heap.get? C = some oC) ∧ (∃ oD, Held ys oD ∧ sw.heap.get? D = some oD ∧ s.heap.get? D = some oD) ∧ H C = none ∧ H D = none ∧ C ∉ X.fs ∧ D ∉ X.fs := by
  obtain ⟨oC, oD, h1, h2, h3, I⟩ := h
  obtain ⟨a1, a2, a3, a4, _⟩ := I.pin (C, oC) (List.mem_append_right _ (List.mem_cons_self ..))
  obtain ⟨b1, b2, b3, b4, _⟩ := I.pin (D, oD) (List.mem_append_right _ (List.mem_cons_of_mem _ (List.mem_cons_self ..)))
  exact ⟨⟨oC, h1, a1⟩, ⟨oD, h3, h2, b1⟩, a2, b2, a4, b4⟩
structure Off (C D : Addr) (s s' : Shared) : Prop where
  os : s'.os = s.os
  bare : AllBare s'.gens
  keep : ∀ b o, b ≠ C → b ≠ D → s.heap.get? b = some o → s'.heap.get? b = some o
  oc : ∃ o, s'.heap.get? C = some o ∧ ∀ v, o.data ≠ .cell v
theorem gq_woken (F : Far X C D) (hip : IpOk X C D ip) (h : GQ X C D ys sw ip σ H s) (z : Off C D s s') (hD : ∃ oD, s'.heap.get? D = some oD ∧ Held (ys ++ [x]) oD) : GQ X C D (ys ++ [x]) s' ip σ H s' := by
  obtain ⟨_, _, nC, nD, fC, fD⟩ := h.at
  obtain ⟨oC, oD, h1, h2, h3, I⟩ := h
  obtain ⟨z1, z2, z3, oC', z4, z5⟩ := z
  obtain ⟨oD', eD, hD⟩ := hD
  have I0 : Inv X ip σ H s := I.pins_of fun p hp => I.pin p (List.mem_append_right _ (List.mem_cons_of_mem _ (List.mem_cons_of_mem _ hp)))
  have nt : ∀ b u, H b = some u → b ≠ C ∧ b ≠ D := fun b u q => ⟨fun hb => (by rw [hb, nC] at q; cases q), fun hb => (by rw [hb, nD] at q; cases q)⟩
  obtain ⟨hh, g, d, t, o⟩ := s'
  have ho : o = s.os := z1
  subst ho
  have nc : ∀ b, b ∉ [C, D] → b ≠ C ∧ b ≠ D := fun b hb => ⟨fun e => hb (by simp [e]), fun e => hb (by simp [e])⟩
  have J : Inv X ip σ H { s with heap := hh, gens := g, drawn := d, toks := t } := by
    refine I0.step (g' := g) (t' := t) (d' := d) (ch := [C, D]) (fun b hb => ?_)
      (fun b ob _ _ hc q _ => z3 b ob (nc b hc).1 (nc b hc).2 q) (fun b ob _ _ hc q _ => ⟨ob.slots, z3 b ob (nc b hc).1 (nc b hc).2 q⟩) (fun _ _ _ _ n => n) (fun b ob hc q => ⟨ob, z3 b ob (nc b hc).1 (nc b hc).2 q⟩)
      (fun _ _ q => q) (fun _ _ _ q => q) (fun b ps q => ⟨#[], by rw [q]; simp⟩) (fun m hm => ?_) (fun b u q => ?_) z2
    · rcases List.mem_cons.mp hb with e | e
      · subst e
        exact ⟨.inr F.c0, F.cl, fun y c q => (F.cc y c q).1, fun p hp => (List.mem_append.mp hp).elim (fun hp => (F.pc p hp).1) fun hp => (hip p hp).2.1⟩
      · have e := List.mem_singleton.mp e
        subst e
        exact ⟨.inr F.d0, F.dl, fun y c q => (F.cc y c q).2, fun p hp => (List.mem_append.mp hp).elim (fun hp => (F.pc p hp).2) fun hp => (hip p hp).2.2.1⟩
    · obtain ⟨ob, es, ep, ho, r⟩ := hm
      exact ⟨ob, es, ep, z3 _ ob (Ne.symm F.cl) (Ne.symm F.dl) ho, r⟩
    · refine (I0.hok b u q).stay (fun c v hc y => ?_) (fun _ y => y) fun _ _ y => y
      have w : c ≠ C ∧ c ≠ D := by
        rcases hc with y | y
        · rw [y]; exact nt b u q
        · exact nt c _ y
      exact z3 c v w.1 w.2 y
  refine ⟨oC', oD', z4, eD, hD, J.pins_of fun p hp => ?_⟩
  rcases List.mem_cons.mp hp with hp | hp
  · rw [hp]
    exact ⟨z4, nC, F.cl, fC, z5⟩
  · rcases List.mem_cons.mp hp with hp | hp
    · rw [hp]
      obtain ⟨acc, c, e, _⟩ := hD
      exact ⟨eD, nD, F.dl, fD, fun v q => by rw [e] at q; cases q⟩
    · exact J.pin p (List.mem_append_right _ hp)
end
def YC (sc : Shared) (C D a : Addr) (g N : Nat) : Protocol := fun n s₀ v s1 kap =>
  ∃ ys x, n + 1 + ys.length = N ∧ RelV x v ∧ s1.os = sc.os ∧ AllBare s1.gens ∧ s1.heap.NoLimit ∧ s1.heap.IsGen a g ∧ (∃ oC, s₀.heap.get? C = some oC ∧ s1.heap.get? C = some oC) ∧ (∃ oD, Held ys oD ∧ s1.heap.get? D = some oD) ∧
    ∀ s', Off C D s1 s' → (∃ oD, s'.heap.get? D = some oD ∧ Held (ys ++ [x]) oD) → kap (.send .none) s'
def FC (P : Program) (w : World) (outer : List PySem.Env) (H : Hp) (sc : Shared) (C D : Addr) (N : Nat) (Q : List V → Hp → Prop) (n : Nat) (s₀ s1 : Shared) : Prop :=
  ∃ H' ys, s1.os = sc.os ∧ AllBare s1.gens ∧ Un (frs outer) [] H H' sc.heap s1.heap ∧ HOk P w H' s1.heap ∧ H' C = none ∧ H' D = none ∧ (∃ oC, s₀.heap.get? C = some oC ∧ s1.heap.get? C = some oC) ∧ (∃ oD, Held ys oD ∧ s1.heap.get? D = some oD) ∧ ys.length ≤ N ∧ Q ys H'
def RC (P : Program) (w : World) (outer : List PySem.Env) (H : Hp) (sc : Shared) (C D : Addr) (N : Nat) (Q : List V → Hp → Prop) : GenEnd := fun n s₀ r s1 =>
  ((r = .ok (.ret .none) ∨ r = .ok .next) ∧ FC P w outer H sc C D N Q n s₀ s1) ∨ ∃ e, r = .error e ∧ False
def GMadeC (P : Program) (w : World) (k : Nat) (outer : List PySem.Env) (H : Hp) (s : Shared) (N : Nat) (Q : List V → Hp → Prop) (u : Value) (s' : Shared) : Prop :=
  ∃ (a : Addr) (g : Nat) (c : Code), u = .ref a ∧ s.heap.objs.size ≤ a ∧ a < s'.heap.objs.size ∧ s'.heap.IsGen a g ∧ s'.gens[g]? = some (.fresh c) ∧ s'.os = s.os ∧ AllBare s'.gens ∧ s'.heap.NoLimit ∧ (∀ b o, s.heap.get? b = some o → s'.heap.get? b = some o) ∧
    ∀ (A : Around) (C D : Addr) (s2 : Shared), Room k A → A.frames = some outer → s'.heap.objs.size ≤ C → s'.heap.objs.size ≤ D → C ≠ D → (∀ b o, s'.heap.get? b = some o → s2.heap.get? b = some o) → (∃ o, s2.heap.get? C = some o ∧ ∀ v, o.data ≠ .cell v) → (∃ o, s2.heap.get? D = some o ∧ Held [] o) → s2.os = s.os → AllBare s2.gens →
      Seg (model P w) A (RC P w outer H s C D N Q) (YC s C D a g N) N s2 c ((model P w).den c) [] s2
section
variable {P : Program} {w : World} {K : PySem.W.Frag} {mg : Str → Option Value} {base : Heap} {N ps : List Str} {qual : Str} {scope : Scope} {f : Addr} {cd : Value} {A : Around} {outer : List PySem.Env} {s s' : Shared} {H : Hp} {us : List Value} {vs : List V} {body : List Stmt} {k M : Nat} {u : Value} {Q : List V → Hp → Prop}
theorem made_c (S : GScope N ps scope) (nc : ∀ y ∈ scope.names, y.2 ≠ .cell) (e0 : Env0 P w K mg base A outer s H) (hl : vs.length = ps.length) (r : Vals vs us)
    (hbody : ∀ (A : Around) (pn : List (Addr × Obj)), Room k A → ∃ t, GSsq (gxq P w K mg base N qual scope f cd A outer s H pn) body t ∧ t { N := M, nx := fun ys _ H' => Q ys H', rt := fun ys v H' => v = .non ∧ Q ys H' } [] (L2.start N vs) H)
    (m : MadeQ body qual scope f cd ps us s (.ok (.ret u)) s') : GMadeC P w k outer H s M Q u s' := by
  obtain ⟨h1, go, nm, qn, tk, eu, hsb, hns, lim1, hgc, hgd0, hgs, hgp, es⟩ := m
  have eu : u = .ref h1.objs.size := by
    cases eu
    rfl
  subst eu
  have hsz : h1.objs.size = s.heap.objs.size + 1 := by rw [hsb.1, Heap.size_push]
  have kp1 : ∀ b o, s.heap.get? b = some o → h1.get? b = some o := fun b o e => hsb.extBut b o (Nat.ne_of_lt (Heap.lt_size e)) (Heap.get?_push_of_some _ e)
  have hpushed := hgp h1
  subst es
  have hgen : ∀ h : Heap, h.get? h1.objs.size = some go → h.IsGen h1.objs.size s.gens.size := fun h e => ⟨go, nm, qn, e, hgc, hgd0, hgs⟩
  refine ⟨h1.objs.size, s.gens.size, _, rfl, by omega, ?_, hgen _ hpushed, Array.getElem?_push_size .., rfl, AllBare.push e0.bare rfl, lim1.keeps fun b o e => Heap.get?_push_of_some _ e, fun b o e => Heap.get?_push_of_some _ (kp1 b o e), ?_⟩
  · show _ < (h1.push _).objs.size
    rw [Heap.size_push]
    exact Nat.lt_succ_self _
  intro Aw C D s2 hrw hfr hC hD hCD hk2 hCo hDo hos hba
  have szp : (h1.push go).objs.size = h1.objs.size + 1 := Heap.size_push ..
  have hC : (h1.push go).objs.size ≤ C := hC
  have hD : (h1.push go).objs.size ≤ D := hD
  rw [szp] at hC hD
  have e0w : Env0 P w K mg base Aw outer s H := ⟨hfr, e0.mod, e0.bs, e0.bsz, e0.funs, e0.frf, e0.hok, e0.bare⟩
  obtain ⟨t, ht, hq⟩ := hbody Aw [(h1.objs.size, go)] hrw
  have kp2 : ∀ b o, h1.get? b = some o → s2.heap.get? b = some o := fun b o e => hk2 b o (Heap.get?_push_of_some _ e)
  obtain ⟨oC, eC, cC⟩ := hCo
  obtain ⟨oD, eD, hel⟩ := hDo
  have cD : ∀ v, oD.data ≠ .cell v := fun v q => by
    obtain ⟨acc, c, e, _⟩ := hel
    rw [e] at q
    cases q
  have young : ∀ b, h1.objs.size ≤ b → H b = none ∧ b ≠ s.heap.objs.size ∧ b ∉ frs outer := fun b hb => by
    refine ⟨e0.hok.fresh (by omega), Nat.ne_of_gt (by show s.heap.objs.size < b; omega), fun hm => ?_⟩
    obtain ⟨_, o, ho, _⟩ := e0.funs.mem hm
    have q : b < s.heap.objs.size := Heap.lt_size ho
    exact absurd (show b < h1.objs.size by omega) (Nat.not_lt.mpr hb)
  have hea : s2.heap.get? h1.objs.size = some go := hk2 _ go hpushed
  have hgd : ∀ v, go.data ≠ .cell v := fun v q => by rw [hgd0] at q; cases q
  have I : Inv (gxq P w K mg base N qual scope f cd Aw outer s H [(h1.objs.size, go)]) ((C, oC) :: (D, oD) :: []) (L2.start N vs) H s2 := by
    refine invq S nc hrw.hd e0w hl r (fun b o e => kp2 b o (kp1 b o e)) (hns.at' fun o e => kp2 _ o e) hos hba fun p hp => ?_
    rcases List.mem_cons.mp hp with e | hp
    · rw [e]
      obtain ⟨y1, y2, y3⟩ := young h1.objs.size (Nat.le_refl _)
      exact ⟨hea, y1, y2, y3, hgd⟩
    · rcases List.mem_cons.mp hp with e | hp
      · rw [e]
        obtain ⟨y1, y2, y3⟩ := young C (by omega)
        exact ⟨eC, y1, y2, y3, cC⟩
      · rw [List.mem_singleton.mp hp]
        obtain ⟨y1, y2, y3⟩ := young D (by omega)
        exact ⟨eD, y1, y2, y3, cD⟩
  have ec : (gxq P w K mg base N qual scope f cd Aw outer s H [(h1.objs.size, go)]).env.cells = [] := cells0 nc
  have far : Far (gxq P w K mg base N qual scope f cd Aw outer s H [(h1.objs.size, go)]) C D := {
    ne := hCD
    c0 := by show s.heap.objs.size ≤ C; omega
    d0 := by show s.heap.objs.size ≤ D; omega
    cl := Nat.ne_of_gt (by show s.heap.objs.size < C; omega)
    dl := Nat.ne_of_gt (by show s.heap.objs.size < D; omega)
    cc := fun x c e => by rw [ec] at e; cases e
    pc := fun p hp => by
      rw [List.mem_singleton.mp hp]
      exact ⟨Nat.ne_of_lt (by show h1.objs.size < C; omega), Nat.ne_of_lt (by show h1.objs.size < D; omega)⟩ }
  have G : GQ (gxq P w K mg base N qual scope f cd Aw outer s H [(h1.objs.size, go)]) C D [] s2 [] (L2.start N vs) H s2 := ⟨oC, oD, eC, eD, hel, I⟩
  refine seg_func ?_
  refine seg_imp (R := RC P w outer H s C D M Q) (Y := GYq (gxq P w K mg base N qual scope f cd Aw outer s H [(h1.objs.size, go)]) C D M) (fun n s₀ r s1' hR => hR) (fun n s₀ v s1' kap kap' hkk hY => ?_) M ?_
  · obtain ⟨ys, x, ip, σ', H', hn, rv, hip, hG, hk⟩ := hY
    obtain ⟨q1, ⟨oD', q2, _, q3⟩, _⟩ := hG.at
    obtain ⟨_, _, _, _, _, J⟩ := id hG
    exact ⟨ys, x, hn, rv, J.os, J.bare, J.nolimit, hgen _ (J.pin (h1.objs.size, go) (List.mem_append_left _ (List.mem_singleton.mpr rfl))).1, q1, ⟨oD', q2, q3⟩, fun s3 z zD => hkk _ _ (hk s3 (gq_woken far hip hG z zD))⟩
  · have fin : ∀ {n : Nat} {ys : List V} {s₀ s3 : Shared} {σ' : L2.St} {H' : Hp}, n + ys.length = M → GQ (gxq P w K mg base N qual scope f cd Aw outer s H [(h1.objs.size, go)]) C D ys s₀ [] σ' H' s3 → Q ys H' → FC P w outer H s C D M Q n s₀ s3 := fun {n ys s₀ s3 σ' H'} hn hG hQ => by
      obtain ⟨q1, ⟨oD', q2, _, q3⟩, nC, nD, _⟩ := hG.at
      obtain ⟨_, _, _, _, _, J⟩ := hG
      exact ⟨H', ys, J.os, J.bare, J.base, J.hok, nC, nD, q1, ⟨oD', q2, q3⟩, by omega, hQ⟩
    refine ht.run Aw C D [] _ M [] s2 _ [] _ _ id id s2 (L2.start N vs) H _ ⟨over_func, rfl, rfl, rfl, fun e s z => z, rfl⟩ (fun p hp => by simp at hp) (Nat.add_zero _) (fun n ys s₀ s3 fl hn hs => ?_) G hq
    cases fl with
    | next =>
      obtain ⟨σ', H', hI, hQ⟩ := hs
      exact seg_end (.ok (.ret .none)) (.inl ⟨.inl rfl, fin hn hI hQ⟩)
    | brk => obtain ⟨_, _, _, q⟩ := hs; exact False.elim q
    | cont => obtain ⟨_, _, _, q⟩ := hs; exact False.elim q
    | ret u =>
      obtain ⟨v, σ', H', hI, rv, ev, hQ⟩ := hs
      subst ev
      have eu : u = Value.none := rv
      subst eu
      exact seg_end (.ok (.ret .none)) (.inl ⟨.inl rfl, fin hn hI hQ⟩)
end
end VL

set_option maxRecDepth 100000
set_option maxHeartbeats 2000000
set_option autoImplicit false
namespace VL
open PySem L2 PyProof.Rows GenW
structure PGenC (X : Cx) (k : Nat) (e : Expr) (tg : TGen) : Prop where
  run : ∀ (pins : List (Addr × Obj)) (s : Shared) (σ : L2.St) (H : Hp) (cont : List V → Hp → Prop), Inv X pins σ H s → tg σ H cont → wpAny (model X.prog X.w) X.A (eval e X.env)
    (fun u s' => ∃ H1 sc N, N ≤ sizeLine ∧ Inv X pins σ H1 sc ∧ GMadeC X.prog X.w k X.stack H1 sc N cont u s') X.xe s
theorem seq_notCell {h : Heap} {C : Addr} {m : Str → Option Value} (hn : h.Ns C m) : ∃ o, h.get? C = some o ∧ ∀ v, o.data ≠ .cell v := by
  obtain ⟨o, es, ep, ho, hd, _⟩ := hn
  exact ⟨o, ho, fun v q => by rw [hd] at q; cases q⟩
section
variable {X : Cx} {k : Nat}
theorem gc_core {pins : List (Addr × Obj)} {s : Shared} {σ : L2.St} {H : Hp} {Q : VK} {y : Str} {p1 p2 : Pos} {iter : Expr} {scope : Scope} {own : List (Str × Nat)} {pos pos' : Pos} {tg : TGen} {use : Option (Value → Sem Unit)} {Qf : Value → Shared → Prop}
    (hN : X.N.Nodup) (I : Inv X pins σ H s) (hi : PGenC X k iter tg) (ok : BlkOk X.N X.env.scope scope own) (hr : Room (k + 3) X.A) (hy : scope.names.lookup y = some .local) (hdb : (y == ("__debug__" : Str)) = false) (hs : ∀ x, foldedSetIterable iter X.env x = pure x)
    (h : tListG tg σ H Q)
    (hRR : ∀ D C s' m H', Inv X pins σ H' s' → Q (.ref D) H' → s'.heap.Ns C m → FpOk X pins H' C → compPost (model X.prog X.w) X.A X.xe use Qf (.ref D) C (.ok .next) s') :
    wpAny (model X.prog X.w) X.A (comprehension (.ListComp (.Name y p1) [⟨.Name y p2, iter, [], 0⟩] scope pos) scope X.env pos' (newList []) false (eval iter X.env) use) Qf X.xe s := by
  have hfree : ∀ y ∈ scope.names, y.2 = .free → ∃ c, X.env.cells.lookup y.1 = some c := fun y hy e => by
    rcases ok.free y hy e with k | k
    · exact I.ok.has _ (.inl k)
    · exact I.ok.has _ (.inr k)
  refine wpAny_comprehension_free (use := use) rfl hs (closure_ok hfree) ok.kind (fun y hy e => by rw [ok.uniq y hy, e])
    (thn (hi.run pins s σ H _ I h) fun u s1 h1 => ?_)
  obtain ⟨H1, sc, N, hNl, I1, a, g, c, rfl, ha1, ha2, hg, hgs, hos, hb, hl, hkp, wake⟩ := h1
  refine wpAny_pyIter_gen hg ?_
  refine wpAny_newObj_type (newEnv_comp ?_) (by show 0 ≤ sizeLine; decide)
  generalize hD : s1.heap.objs.size = D
  generalize hs3 : ({ s1 with heap := s1.heap.push { cls := .type "list", data := .seq ([] : List Value).toArray } } : Shared) = s3
  have h3 : s3.heap = s1.heap.push { cls := .type "list", data := .seq ([] : List Value).toArray } := by rw [← hs3]
  have kp3 : ∀ b o, s1.heap.get? b = some o → s3.heap.get? b = some o := fun b o e => by rw [h3]; exact Heap.get?_push_of_some _ e
  have I3 : Inv X pins σ H1 s3 := by
    refine I1.call' (ch := []) (by rw [← hs3]; exact hos) (Un.kept fun b o e => kp3 b o (hkp b o e)) (I1.hok.kept fun b o e => kp3 b o (hkp b o e)) (by rw [← hs3]; exact hb) fun b z => by simp at z
  have I4 := block_start (fp := []) I3 ok hN (fun b z => by simp at z)
  show codeAny _ _ (.compStart (.ListComp (.Name y p1) [⟨.Name y p2, iter, [], 0⟩] scope pos) 0 (.ref a) (.ref D) (compEnvC scope (cellsFrom (s3.heap.objs.size + 1) scope.names (cloFrom X.env.cells scope.names [])) s3.heap.objs.size X.env)) (compPost (model X.prog X.w) X.A X.xe use Qf (.ref D) s3.heap.objs.size) { s3 with heap := pushCells (s3.heap.push { cls := .type "dict", data := .dict #[] }) scope.names }
  generalize hce : compEnvC scope (cellsFrom (s3.heap.objs.size + 1) scope.names (cloFrom X.env.cells scope.names [])) s3.heap.objs.size X.env = ce at I4 ⊢
  have cL : ce.locals = s3.heap.objs.size := by subst hce; rfl
  have cK : ce.scope.kind = .function := by subst hce; exact ok.kind
  have cy : ce.kindOf y = some .local := by subst hce; exact lookup_relabel_local hy
  have cP : (ce.scope.kind == .class || (ce.scope.kind == .module && ce.locals != ce.globals)) = false := by rw [cK]; rfl
  generalize hs4 : ({ s3 with heap := pushCells (s3.heap.push { cls := .type "dict", data := .dict #[] }) scope.names } : Shared) = s4 at I4 ⊢
  have kp4 : ∀ b o, s3.heap.get? b = some o → s4.heap.get? b = some o := fun b o e => by rw [← hs4]; exact pushCells_keeps _ _ _ _ (Heap.get?_push_of_some _ e)
  have hCD : s3.heap.objs.size = D + 1 := by rw [h3, Heap.size_push, hD]
  generalize hC : s3.heap.objs.size = C at cL hCD ⊢
  have hCne : C ≠ D := by rw [hCD]; exact Nat.succ_ne_self D
  obtain ⟨m4, hn4, _⟩ := I4.loc
  have hn4 : s4.heap.Ns ce.locals m4 := hn4
  rw [cL] at hn4
  have eD4 : s4.heap.get? D = some (lstObj #[] 0) := by
    refine kp4 _ _ ?_
    rw [h3, ← hD]
    exact Heap.get?_push_size _ rfl
  have hscD : sc.heap.objs.size ≤ D := by rw [← hD]; exact Nat.le_of_lt (Nat.lt_of_le_of_lt ha1 ha2)
  have hscC : sc.heap.objs.size ≤ C := by rw [hCD]; exact Nat.le_succ_of_le hscD
  have haD : a < D := by rw [← hD]; exact ha2
  have hcsD : cStatics < D := by
    obtain ⟨_, hn, _⟩ := id hl
    rw [← hD]
    exact hn.lt
  have goes : ∀ {gs : GenState} {B : Around} {n : Nat} {r : Resume} {s : Shared}, gs.Goes (model X.prog X.w) B (RC X.prog X.w X.stack H1 sc C D N (fun ys H2 => ∀ p, H2 p = none → Q (.ref p) (upd H2 p (.lst ys)))) (YC sc C D a g N) n r s →
      gs.Goes (model X.prog X.w) B (fun n s₀ r s1 => ((r = .ok (.ret .none) ∨ r = .ok .next) ∧ FC X.prog X.w X.stack H1 sc C D N (fun ys H2 => ∀ p, H2 p = none → Q (.ref p) (upd H2 p (.lst ys))) n s₀ s1) ∨ ∃ e, r = .error e ∧ (fun _ _ => False : Value → Shared → Prop) e s1) (YC sc C D a g N) n r s := fun h => h
  have loop : codeAny (model X.prog X.w) X.A (.compLoop (.ListComp (.Name y p1) [⟨.Name y p2, iter, [], 0⟩] scope pos) 0 (.ref a) (.ref D) ce) (compPost (model X.prog X.w) X.A X.xe use Qf (.ref D) C) s4 := by
    refine compLoop_any (fun n s' => s'.heap.IsGen a g ∧ s'.heap.NoLimit ∧ (∃ m, s'.heap.Ns C m) ∧ ∃ gs, s'.gens[g]? = some gs ∧ gs.Goes (model X.prog X.w) X.A.in1 (RC X.prog X.w X.stack H1 sc C D N (fun ys H2 => ∀ p, H2 p = none → Q (.ref p) (upd H2 p (.lst ys)))) (YC sc C D a g N) n (.send .none) (s'.setGen g .running)) ?_ N ?_
    · rintro n s5 ⟨hg5, hl5, ⟨m5, hn5⟩, gs, hgs5, hgo⟩
      have hgl : g < s5.gens.size := (Array.getElem?_eq_some_iff.mp hgs5).1
      refine wpAny_gsz (n := g + 1) hgl (next_genG (A := X.A) hr.hd hl5 (by have := hr.dp; omega) hg5 hgs5 (goes hgo) (fun v s6 gs' hbare hv => ?_) (fun s6 hp h' hk => ?_) fun e s6 he => he.elim)
      · intro hsz
        obtain ⟨ys, x, hn, rv, os6, b6, l6, g6, ⟨oC, c0, c1⟩, ⟨oD, held, d1⟩, hk⟩ := hv
        obtain ⟨acc, cc, rfl, ra⟩ := held
        have hn6 : s6.heap.Ns C m5 := hn5.at' fun o e => by
          have c0 : s5.heap.get? C = some oC := c0
          rw [c0] at e
          cases e
          exact c1
        refine wpAny_of_eq (a := ()) (by rfl) ?_
        refine wpAny_assign_Name (wpAny_storeName_local cy (by rw [cL]; exact hn6) (fun h7 hn7 hs7 => ?_) cP)
        refine wpAny_tests_nil ?_
        simp only [if_true]
        refine wpAny_Name (wpAny_loadName_local (v := v) cK cy hn7 (by simp) ?_) hdb
        rw [cL] at hn7 hs7
        have d7 : h7.get? D = some (lstObj acc cc) := (hs7.2 D (Ne.symm hCne)).trans d1
        have hlen : acc.size = ys.length := by
          have e1 := ra.length
          have e2 : acc.toList.length = acc.size := by simp
          omega
        refine append_at (hsz := by omega) d7 fun h8 sb8 ho8 => ?_
        have hn8 : h8.Ns C _ := hn7.sameBut sb8 hCne
        have off : ∀ G : Array GenState, AllBare G → ∀ (tk : Nat), Off C D s6 { s6 with gens := G, toks := tk, heap := h8 } := fun G hG tk => ⟨rfl, hG, fun b o b1 b2 e => (sb8.2 b b2).trans ((hs7.2 b b1).trans e), seq_notCell hn8⟩
        have k8 : ∀ b o, b ≠ C → b ≠ D → s6.heap.get? b = some o → h8.get? b = some o := fun b o b1 b2 e => (sb8.2 b b2).trans ((hs7.2 b b1).trans e)
        have held8 : ∃ oD, h8.get? D = some oD ∧ Held (ys ++ [x]) oD := ⟨_, ho8, acc.push v, cc + 1, rfl, by rw [Array.toList_push]; exact ra.append (.cons rv .nil)⟩
        have hsz6 : g < s6.gens.size := by
          have q : (s6.setGen g gs').gens.size = s6.gens.size := setGen_size _ _ _
          have hsz' : g + 1 ≤ (s6.setGen g gs').gens.size := hsz
          omega
        cases n with
        | zero => exact (hk _ (off s6.gens b6 s6.toks) held8).elim
        | succ m =>
          refine ⟨m, Nat.lt_succ_self m, ?_, ?_, ⟨_, hn8⟩, gs', setGen_at hsz6, ?_⟩
          · obtain ⟨o, nm, qn, ho, r⟩ := g6
            exact ⟨o, nm, qn, k8 a o (Nat.ne_of_lt (by rw [hCD]; exact Nat.lt_succ_of_lt haD)) (Nat.ne_of_lt haD) ho, r⟩
          · obtain ⟨mc, hns, hnn⟩ := l6
            exact ⟨mc, hns.at' fun o e => k8 _ o (Nat.ne_of_lt (by rw [hCD]; exact Nat.lt_succ_of_lt hcsD)) (Nat.ne_of_lt hcsD) e, hnn⟩
          · exact hk _ (off _ (allBare_setGen (s := s6.setGen g gs') (allBare_setGen b6 hbare) rfl) _) held8
      · intro hsz
        obtain ⟨H', ys, os6, b6, un, hok, nC, nD, ⟨oC, c0, c1⟩, ⟨oD, held, d1⟩, hle, hQ⟩ := hp
        obtain ⟨acc, cc, rfl, ra⟩ := held
        have hn6 : h'.Ns C m5 := hn5.at' fun o e => by
          have c0 : s5.heap.get? C = some oC := c0
          rw [c0] at e
          cases e
          exact hk _ _ c1
        have I6 : Inv X pins σ (upd H' D (.lst ys)) { s6.setGen g .finished with heap := h' } := I1.drained hscD (Nat.le_trans hle hNl) (hk _ _ d1) ra .nil os6 (allBare_setGen b6 rfl) (un.trans (Un.kept hk)) (hok.kept hk) nD
        exact hRR D C _ m5 _ I6 (hQ D nD) hn6 (I1.fpOk hscC (by rw [upd_ne hCne]; exact nC))
    · refine ⟨hg.keeps fun b o e => kp4 b o (kp3 b o e), hl.keeps fun b o e => kp4 b o (kp3 b o e), ⟨m4, hn4⟩, .fresh c, ?_, rfl, ?_⟩
      · rw [← hs4, ← hs3]
        exact hgs
      · refine wake _ _ _ _ ⟨hr.hd, ?_, ?_⟩ I1.ok.frames ?_ ?_ hCne (fun b o e => kp4 b o (kp3 b o e)) (seq_notCell hn4) ⟨_, eD4, #[], 0, rfl, .nil⟩ ?_ ?_
        · have := hr.dp
          show X.A.depth + 3 * k + 5 < _
          omega
        · have := hr.un
          show X.A.units + 1 + 16 * k + 200 < _
          omega
        · rw [hCD, ← hD]; exact Nat.le_succ _
        · exact Nat.le_of_eq hD
        · rw [← hs4, ← hs3]; exact hos
        · exact allBare_setGen (by rw [← hs4, ← hs3]; exact hb) rfl
  exact codeAny_compStart_list loop (wpAny_pyIter_gen (hg.keeps fun b o e => kp4 b o (kp3 b o e)) loop)
end
end VL

set_option maxRecDepth 100000
set_option maxHeartbeats 2000000
set_option autoImplicit false
namespace VL
open PySem L2 PyProof.Rows GenW
section
variable {X : Cx} {k : Nat}
theorem ps_setGc {i : Nat} {z y : Str} {pz p1 p2 pos spos : Pos} {iter : Expr} {scope : Scope} {own : List (Str × Nat)} {tg : TGen} (hN : X.N.Nodup) (hz : X.N[i]? = some z) (hzl : X.env.scope.names.lookup z = some .local)
    (hsw : swapsWith (.ListComp (.Name y p1) [⟨.Name y p2, iter, [], 0⟩] scope pos) (some (.Name z pz)) spos.line X.env = pure true) (hi : PGenC X k iter tg) (ok : BlkOk X.N X.env.scope scope own) (hr : Room (k + 3) X.A) (hy : scope.names.lookup y = some .local) (hdb : (y == ("__debug__" : Str)) = false := by decide) (hs : ∀ x, foldedSetIterable iter X.env x = pure x := by intro _; rfl) :
    PS X (.Assign [.Name z pz] (.ListComp (.Name y p1) [⟨.Name y p2, iter, [], 0⟩] scope pos) spos) (tAsg (tListG tg) (gName i)) := by
  refine ⟨fun pins s σ H D I h => ?_⟩
  rw [exec_Assign_Name_used _ _ _ _ hsw]
  refine wpAny_bind (wpAny_standAt (wpAny_bind ?_))
  show wpAny _ X.A (do let _ ← comprehension (.ListComp (.Name y p1) [⟨.Name y p2, iter, [], 0⟩] scope pos) scope X.env (firstIterPos [⟨.Name y p2, iter, [], 0⟩] pos) (newList []) false (eval iter X.env) (some (assign (.Name z pz) X.env))) _ _ s
  have h : tListG tg σ H (fun x H1 => gName i x σ H1 D.nx) := h
  refine wpAny_bind (thn (gc_core (Qf := fun _ s' => SP X pins D .next s') hN I hi ok hr hy hdb hs h fun L C s' m H' I' q hn f => ?_) fun _ s' hq => wpAny_pure (wpAny_pure hq))
  show wpAny _ _ (assign (.Name z pz) X.env (.ref L)) _ _ _
  refine wpAny_assign_Name (store_ok2 (v := V.ref L) I' hN hz (.inl hzl) rfl (fun s2 I2 ⟨a, sb, ha⟩ => ?_) (.inr hzl))
  obtain ⟨f0, f1, f2, f3, f4, f5⟩ := f
  have haC : C ≠ a := by
    rcases ha with e | e
    · rw [e]; exact f1
    · exact fun q => f4 z a e q.symm
  refine ⟨m, hn.sameBut sb haC, fun h3 sb3 => ?_⟩
  exact ⟨_, H', I2.turned (t' := s2.toks) (fun b o hb e => (sb3.2 b hb).trans e) f0 f1 f3 f4 f5, q⟩
end
abbrev SpC := List V → Hp → (List V → Hp → Prop) → Prop
structure GFnC (P : Program) (w : World) (K : PySem.W.Frag) (mg : Str → Option Value) (base : Heap) (k : Nat) (f : Addr) (fd : FuncData) (ps : List Str) (sp : SpC) : Prop where
  len : ∀ vs H Q, sp vs H Q → vs.length = ps.length
  run : ∀ (A : Around) (outer : List PySem.Env) (s : Shared) (H : Hp) (args : Args) (us : List Value) (vs : List V) (Q : List V → Hp → Prop), Room k A → Env0 P w K mg base A outer s H → BindsTo s fd args (ps.zip us) → Vals vs us → sp vs H Q →
    codeAny (model P w) A (.call (.ref f) args) (fun r s' => match r with | .ok (.ret u) => ∃ N, N ≤ sizeLine ∧ GMadeC P w k outer H s N Q u s' | _ => False) s
theorem gfnc_of {P : Program} {w : World} {K : PySem.W.Frag} {mg : Str → Option Value} {base : Heap} {x qual : Str} {st : Stmt} {f : Addr} {fd : FuncData} {N ps : List Str} {k : Nat} {sp : SpC} (F : Fun K x qual st f fd) (S : GScope N ps (defScope st)) (nc : ∀ y ∈ (defScope st).names, y.2 ≠ .cell)
    (len : ∀ vs H Q, sp vs H Q → vs.length = ps.length)
    (hbody : ∀ (cd : Value) (A : Around) (outer : List PySem.Env) (s : Shared) (H : Hp) (vs : List V) (Q : List V → Hp → Prop) (pn : List (Addr × Obj)), Room k (A.deeper (envOfC qual (defScope st) s.heap.objs.size f cd)) → sp vs H Q →
      ∃ t, GSsq (gxq P w K mg base N qual (defScope st) f cd A outer s H pn) (defBody st) t ∧ t { N := sizeLine, nx := fun ys _ H' => Q ys H', rt := fun ys v H' => v = .non ∧ Q ys H' } [] (L2.start N vs) H) :
    GFnC P w K mg base (k + 1) f fd ps sp := by
  obtain ⟨cd, _, G⟩ := gfnq_of (P := P) (w := w) (mg := mg) (base := base) (k := k + 1) F S nc
  refine ⟨len, fun A outer s H args us vs Q hr e0 hb r hsp => ?_⟩
  have hl := len _ _ _ hsp
  refine codeAny_mono (G.run A outer s H args us vs hr e0 hb r hl) fun rr s' m => ?_
  have m' := m
  obtain ⟨h1, go, nm, qn, tk, eu, _⟩ := m'
  subst eu
  exact ⟨sizeLine, Nat.le_refl _, made_c S nc e0 hl r (fun A pn hra => hbody cd A outer s H vs Q pn (hra.deeper _) hsp) m⟩
section
variable {X : Cx} {k : Nat} {f C : Addr} {fd : FuncData} {ps : List Str} {sp : SpC} {dvs : List V} {ds : List Value} {x m : Str} {p pos apos : Pos} {o : Expr} {ta : TE}
theorem run_gfnc {pins : List (Addr × Obj)} {σ : L2.St} {H : Hp} {s : Shared} {us : List Value} {vs : List V} {cont : List V → Hp → Prop} {E1 : Value → Shared → Prop} (F : GFnC X.prog X.w X.K X.mg X.base k f fd ps sp) (hr : Room k X.A) (hb : Binds X.K fd ps ds) (hd : Vals dvs ds)
    (I : Inv X pins σ H s) (r : Vals vs us) (h : sp (vs ++ dvs) H cont) :
    wpAny (model X.prog X.w) X.A (call (.ref f) us) (fun u s' => ∃ H1 sc N, N ≤ sizeLine ∧ Inv X pins σ H1 sc ∧ GMadeC X.prog X.w k X.stack H1 sc N cont u s') E1 s := by
  have r2 : Vals (vs ++ dvs) (us ++ ds) := r.append hd
  have hl2 : (us ++ ds).length = ps.length := by rw [← r2.length]; exact F.len _ _ _ h
  refine wpAny_call (codeAny_mono (F.run X.A X.stack s H ⟨us, []⟩ (us ++ ds) (vs ++ dvs) cont hr I.env0 (hb s us I.kIn hl2) r2 h) fun r s' hq => ?_)
  cases r with
  | error e => exact False.elim hq
  | ok fl =>
    cases fl with
    | ret u =>
      obtain ⟨N, q1, q2⟩ := hq
      exact ⟨H, s, N, q1, I, q2⟩
    | next => exact False.elim hq
    | brk => exact False.elim hq
    | cont => exact False.elim hq
def tCallC (sp : SpC) (dvs : List V) (t : TA) : TGen := fun σ H cont => t σ H fun vs H1 => sp (vs ++ dvs) H1 cont
theorem pgenc_call {e : Expr} {es : List Expr} {t : TA} (F : GFnC X.prog X.w X.K X.mg X.base k f fd ps sp) (hr : Room k X.A) (hg : Gl X x) (hm : X.mg x = some (.ref f)) (hk : PySem.W.keepIn X.K (.ref f) = true) (hb : Binds X.K fd ps ds) (hd : Vals dvs ds)
    (ha : PA X (e :: es) t) (hdb : (x == ("__debug__" : Str)) = false := by decide) (he : starEach (e :: es) X.env = (false, eval e X.env) :: starEach es X.env := by rfl) (hpl : (backTo pos (starEach es X.env)).any (·.1) = false := by rfl) :
    PGenC X k (.Call (.Name x p) (e :: es) [] pos) (tCallC sp dvs t) := by
  refine ⟨fun pins s σ H cont I h => ?_⟩
  refine wpAny_Call_Name_kw (ld_glob I hg hm ?_ hdb)
  refine PySem.W.callWith_K (h₀ := X.base) I.ok.mod.kin hk (thn (ha.run pos pins s σ H _ I h) fun us s1 ⟨vs, H1, I1, r, q⟩ => ⟨I1.kIn, ?_⟩) he hpl
  exact run_gfnc F hr hb hd I1 r q
end
end VL

set_option maxRecDepth 100000
set_option maxHeartbeats 2000000
set_option autoImplicit false
namespace VL
open PySem L2 PyProof.Rows GenW
inductive GRes where
  | nx (env : Env) (out : List D) | rt (out : List D) | bk (env : Env) (out : List D) | ct (env : Env) (out : List D) | bad
def PostG (X : Cx) (H0 : Hp) (M0 M : Addr → Bool) (H : Hp) (E : GE) : GRes → Prop
  | .nx env out => ∀ M' H' σ' ys, Good (gm X) H0 M0 M' H' σ' env → VEx (Sh M (vw H)) (Sh M' (vw H')) → RpL (gm X) (Sh M' (vw H')) out ys → E.nx ys σ' H'
  | .bk env out => ∀ M' H' σ' ys, Good (gm X) H0 M0 M' H' σ' env → VEx (Sh M (vw H)) (Sh M' (vw H')) → RpL (gm X) (Sh M' (vw H')) out ys → E.bk ys σ' H'
  | .ct env out => ∀ M' H' σ' ys, Good (gm X) H0 M0 M' H' σ' env → VEx (Sh M (vw H)) (Sh M' (vw H')) → RpL (gm X) (Sh M' (vw H')) out ys → E.ct ys σ' H'
  | .rt out => ∀ H' ys, Ext H0 H' → RpL (gm X) (Sh M0 (vw H')) out ys → E.rt ys .non H'
  | .bad => False
def VSg (X : Cx) (st : Stmt) (ψ : Env → List D → GRes) : Prop :=
  ∃ t : TGq, GSq X st t ∧ ∀ (H0 : Hp) (M0 M : Addr → Bool) (H : Hp) (σ : L2.St) (env : Env) (out : List D) (ys : List V) (E : GE), E.N = sizeLine → Good (gm X) H0 M0 M H σ env → RpL (gm X) (Sh M (vw H)) out ys → PostG X H0 M0 M H E (ψ env out) → t E ys σ H
def VBg (X : Cx) (st : List Stmt) (ψ : Env → List D → GRes) : Prop :=
  ∃ t : TGq, GSsq X st t ∧ ∀ (H0 : Hp) (M0 M : Addr → Bool) (H : Hp) (σ : L2.St) (env : Env) (out : List D) (ys : List V) (E : GE), E.N = sizeLine → Good (gm X) H0 M0 M H σ env → RpL (gm X) (Sh M (vw H)) out ys → PostG X H0 M0 M H E (ψ env out) → t E ys σ H
section
variable {X : Cx} {H0 H H' : Hp} {M0 M M' : Addr → Bool} {E : GE} {mg : Gm}
theorem PostG.mono {r : GRes} (h : PostG X H0 M0 M H E r) (e : VEx (Sh M (vw H)) (Sh M' (vw H'))) : PostG X H0 M0 M' H' E r := by
  cases r with
  | nx env out => exact fun M2 H2 σ2 ys g e2 r => h M2 H2 σ2 ys g (e.trans e2) r
  | bk env out => exact fun M2 H2 σ2 ys g e2 r => h M2 H2 σ2 ys g (e.trans e2) r
  | ct env out => exact fun M2 H2 σ2 ys g e2 r => h M2 H2 σ2 ys g (e.trans e2) r
  | rt out => exact h
  | bad => exact h
theorem sh_down (sub : ∀ a, M0 a = true → M a = true) : VEx (Sh M (vw H)) (Sh M0 (vw H)) := fun a u h => by
  obtain ⟨h1, h2⟩ := Sh_some h
  have q : M0 a = false := by
    cases q : M0 a with
    | false => rfl
    | true => rw [sub a q] at h1; cases h1
  rw [Sh_of q]
  exact h2
end
section
variable {X : Cx} {st : Stmt} {rest sts : List Stmt} {pos : Pos} {ψ : Env → SRes} {χ ρ : Env → List D → GRes}
def yldG (φ : Env → Res D) (env : Env) (out : List D) : GRes := match φ env with
  | .ok d => if out.length < sizeLine then .nx env (out ++ [d]) else .bad
  | _ => .bad
theorem vg_yield {e : Expr} {φ : Env → Res D} {yp : Pos} (h : VE X W0 true e φ) (hco : X.env.scope.isCoroutine = false := by rfl) (hi : interactive X.env = false := by rfl) : VSg X (.Expr (.Yield (some e) yp) pos) (yldG φ) := by
  obtain ⟨t, p, r⟩ := h
  refine ⟨_, gq_yield p hco hi, fun H0 M0 M H σ env out ys E hN g ro h => ?_⟩
  unfold yldG at h
  cases q : φ env with
  | exc c fs => rw [q] at h; exact h.elim
  | bad => rw [q] at h; exact h.elim
  | ok d =>
    rw [q] at h
    have h : PostG X H0 M0 M H E (if out.length < sizeLine then .nx env (out ++ [d]) else .bad) := h
    by_cases hz : out.length < sizeLine
    · rw [if_pos hz] at h
      refine ⟨by rw [hN, ← ro.length]; exact hz, ?_⟩
      refine r H0 M0 M H σ env _ g ?_
      rw [q]
      exact fun v H1 e1 r1 => h M H1 σ (ys ++ [v]) (g.mono e1) (Sh_mono e1.v) ((ro.mono (Sh_mono e1.v)).append (.cons r1 .nil))
    · rw [if_neg hz] at h; exact h.elim
def nilGG (env : Env) (out : List D) : GRes := .nx env out
theorem vbg_nil : VBg X [] nilGG := ⟨_, gq_nil, fun H0 M0 M H σ env out ys E hN g ro h => h M H σ ys g (.refl _) ro⟩
def consGG (χ ρ : Env → List D → GRes) (env : Env) (out : List D) : GRes := match χ env out with
  | .nx env' out' => ρ env' out'
  | r => r
theorem vbg_cons (h1 : VSg X st χ) (h2 : VBg X rest ρ) : VBg X (st :: rest) (consGG χ ρ) := by
  obtain ⟨t, p, r⟩ := h1
  obtain ⟨u, q, s⟩ := h2
  refine ⟨_, gq_cons p q, fun H0 M0 M H σ env out ys E hN g ro h => ?_⟩
  refine r H0 M0 M H σ env out ys _ hN g ro ?_
  unfold consGG at h
  cases z : χ env out with
  | nx e o =>
    rw [z] at h
    exact fun M' H' σ' ys' g' e' r' => s H0 M0 M' H' σ' e o ys' E hN g' r' (PostG.mono h e')
  | rt o => rw [z] at h; exact h
  | bk e o => rw [z] at h; exact h
  | ct e o => rw [z] at h; exact h
  | bad => rw [z] at h; exact h
def flowG (r : GRes) (k : Env → List D → GRes) : GRes := match r with
  | .nx env out => k env out
  | .ct env out => k env out
  | .bk env out => .nx env out
  | r => r
def forGL (γ : D → Env → Option Env) (χ : Env → List D → GRes) : List D → Env → List D → GRes
  | [], env, out => .nx env out
  | d :: ds, env, out => match γ d env with
    | none => .bad
    | some env1 => flowG (χ env1 out) (forGL γ χ ds)
def forG (γ : D → Env → Option Env) (ι : Env → Res (List D)) (χ : Env → List D → GRes) (env : Env) (out : List D) : GRes := match ι env with
  | .ok ds => forGL γ χ ds env out
  | _ => .bad
theorem vg_for {tg iter : Expr} {γ : D → Env → Option Env} {ι : Env → Res (List D)} (hc : X.calm = true) (hi : VI X W0 tg iter ι) (hg : VG X tg γ) (hb : VBg X sts χ) (hs : ∀ x, foldedSetIterable iter X.env x = pure x := by intro _; rfl) : VSg X (.For tg iter sts [] pos) (forG γ ι χ) := by
  obtain ⟨wi, pi, ri⟩ := hi
  obtain ⟨tg', pg, rg⟩ := hg
  obtain ⟨tb, pb, rb⟩ := hb
  refine ⟨_, gq_for hc pi pg pb hs, fun H0 M0 M H σ env out ys E hN g ro h => ?_⟩
  refine ri H0 M0 M H σ env _ g ?_
  unfold forG at h
  cases q : ι env with
  | bad => rw [q] at h; exact h.elim
  | exc c fs => rw [q] at h; exact h.elim
  | ok ds =>
    rw [q] at h
    intro J H1 e1 ok
    have h1 : PostG X H0 M0 M H1 E (forGL γ χ ds env out) := PostG.mono h (Sh_mono e1.v)
    refine ⟨fun i m ys' σ' H' => m = ds.length - i ∧ ∃ M' env' out', Good (gm X) H0 M0 M' H' σ' env' ∧ VEx (Sh M (vw H1)) (Sh M' (vw H')) ∧ RpL (gm X) (Sh M' (vw H')) out' ys' ∧ PostG X H0 M0 M' H' E (forGL γ χ (ds.drop i) env' out'),
      ⟨ds.length, rfl, M, env, out, g.mono e1, .refl _, ro.mono (Sh_mono e1.v), h1⟩, ?_⟩
    rintro i m ys' σ' H' ⟨rfl, M', env', out', g', e', ro', h'⟩
    obtain ⟨o1, o2⟩ := ok M' H' g'.ok g'.ex e' i
    cases qd : ds[i]? with
    | none =>
      have hi : ds.length ≤ i := List.getElem?_eq_none_iff.mp qd
      rw [List.drop_of_length_le hi] at h'
      exact .inl ⟨o1 hi, h' M' H' σ' ys' g' (.refl _) ro'⟩
    | some d =>
      obtain ⟨o3, o4⟩ := o2 d qd
      have hi : i < ds.length := (List.getElem?_eq_some_iff.mp qd).1
      have hdr : ds.drop i = d :: ds.drop (i + 1) := by
        rw [List.drop_eq_getElem_cons hi]
        rw [List.getElem?_eq_getElem hi] at qd
        cases qd; rfl
      rw [hdr] at h'
      unfold forGL at h'
      cases qg : γ d env' with
      | none => rw [qg] at h'; exact h'.elim
      | some env1 =>
        rw [qg] at h'
        refine .inr ⟨o3, fun ys2 σ2 H2 => ∃ M2 env2 out2, Good (gm X) H0 M0 M2 H2 σ2 env2 ∧ VEx (Sh M (vw H1)) (Sh M2 (vw H2)) ∧ RpL (gm X) (Sh M2 (vw H2)) out2 ys2 ∧ PostG X H0 M0 M2 H2 E (forGL γ χ (ds.drop (i + 1)) env2 out2),
          fun ys2 σ2 H2 ⟨M2, env2, out2, x1, x2, x3, x4⟩ => ⟨ds.length - (i + 1), by omega, rfl, M2, env2, out2, x1, x2, x3, x4⟩, fun x H2 y => ?_⟩
        obtain ⟨ey, ry⟩ := o4 x H2 y
        refine rg H0 M0 M' H2 σ' env' env1 d x _ (g'.mono ey) ry qg fun σ3 g3 => ?_
        have h3 : PostG X H0 M0 M' H2 E (flowG (χ env1 out') (forGL γ χ (ds.drop (i + 1)))) := PostG.mono h' (Sh_mono (M := M') ey.v)
        have e3 := e'.trans (Sh_mono (M := M') ey.v)
        refine rb H0 M0 M' H2 σ3 env1 out' ys' _ hN g3 (ro'.mono (Sh_mono ey.v)) ?_
        cases qb : χ env1 out' with
        | nx env2 o2 => rw [qb] at h3; exact fun M4 H4 σ4 ys4 g4 e4 r4 => ⟨M4, env2, o2, g4, e3.trans e4, r4, PostG.mono h3 e4⟩
        | ct env2 o2 => rw [qb] at h3; exact fun M4 H4 σ4 ys4 g4 e4 r4 => ⟨M4, env2, o2, g4, e3.trans e4, r4, PostG.mono h3 e4⟩
        | bk env2 o2 => rw [qb] at h3; exact h3
        | rt o2 => rw [qb] at h3; exact h3
        | bad => rw [qb] at h3; exact h3
end
def outG : GRes → Res D
  | .nx _ out => .ok (.lst out)
  | .rt out => .ok (.lst out)
  | _ => .bad
def genM (m : Nat) (χ : Env → List D → GRes) (ds : List D) : Res D := outG (χ (env0 m ds) [])
def spG (mg : Gm) (n : Nat) (F : List D → Res D) : SpC := fun vs H Q => vs.length = n ∧ ∃ (M : Addr → Bool) (ds out : List D), MOk M H ∧ RpL mg (Sh M (vw H)) ds vs ∧ F ds = .ok (.lst out) ∧ ∀ ys H', Ext H H' → RpL mg (Sh M (vw H')) out ys → Q ys H'
section
variable {P : Program} {w : World} {K : PySem.W.Frag} {mg : Str → Option Value} {base : Heap} {x c m qual : Str} {st : Stmt} {N ps : List Str} {k n : Nat} {F : List D → Res D} {f : Addr} {fd : FuncData}
theorem gen_v (Fu : Fun K x qual st f fd) (χ : Env → List D → GRes) (S : GScope N ps (defScope st)) (nc : ∀ y ∈ (defScope st).names, y.2 ≠ .cell) (hn : ps.length = n)
    (body : ∀ (cd : Value) (A : Around) (outer : List PySem.Env) (s : Shared) (H : Hp) (pn : List (Addr × Obj)), Room k (A.deeper (envOfC qual (defScope st) s.heap.objs.size f cd)) →
      VBg (gxq P w K mg base N qual (defScope st) f cd A outer s H pn) (defBody st) χ) :
    GFnC P w K mg base (k + 1) f fd ps (spG ⟨P, w, K, mg⟩ n (genM N.length χ)) := by
  refine gfnc_of Fu S nc (fun vs H Q h => h.1.trans hn.symm) fun cd A outer s H vs Q pn hr h => ?_
  obtain ⟨hl, M, ds, out, m, r, hF, post⟩ := h
  obtain ⟨t, p, rr⟩ := body cd A outer s H pn hr
  refine ⟨t, p, rr H M M H _ (env0 N.length ds) [] [] _ rfl (good0 m r) .nil ?_⟩
  unfold genM at hF
  cases q : χ (env0 N.length ds) [] with
  | nx env o =>
    rw [q] at hF
    cases hF
    exact fun M' H' σ' ys g' e' r' => post ys H' g'.ex (r'.mono (sh_down g'.sub))
  | rt o =>
    rw [q] at hF
    cases hF
    exact fun H' ys e' r' => ⟨rfl, post ys H' e' r'⟩
  | bk env o => rw [q] at hF; cases hF
  | ct env o => rw [q] at hF; cases hF
  | bad => rw [q] at hF; cases hF
structure DefOkY (P : Program) (w : World) (K : PySem.W.Frag) (mg : Str → Option Value) (base : Heap) (x : Str) (k : Nat) (ps : List Str) (n : Nat) (F : List D → Res D) : Prop where
  ex : ∃ (f : Addr) (fd : FuncData), mg x = some (.ref f) ∧ PySem.W.keepIn K (.ref f) = true ∧ Binds K fd ps [] ∧ GFnC P w K mg base k f fd ps (spG ⟨P, w, K, mg⟩ n F)
structure MethOkY (P : Program) (w : World) (K : PySem.W.Frag) (mg : Str → Option Value) (base : Heap) (c m : Str) (k : Nat) (ps : List Str) (n : Nat) (F : List D → Res D) : Prop where
  ex : ∃ (C f : Addr) (fd : FuncData), mg c = some (.ref C) ∧ Cls K C ∧ Meth K C m f ∧ Binds K fd ps [] ∧ GFnC P w K mg base k f fd ps (spG ⟨P, w, K, mg⟩ n F)
theorem def_y (N : List Str) (χ : Env → List D → GRes) (R : Raw K mg x st ps) (S : GScope N ps (defScope st)) (nc : ∀ y ∈ (defScope st).names, y.2 ≠ .cell) (hn : ps.length = n) (hF : F = genM N.length χ)
    (body : ∀ (f : Addr) (cd : Value) (A : Around) (outer : List PySem.Env) (s : Shared) (H : Hp) (pn : List (Addr × Obj)), Room k (A.deeper (envOfC x (defScope st) s.heap.objs.size f cd)) →
      VBg (gxq P w K mg base N x (defScope st) f cd A outer s H pn) (defBody st) χ) : DefOkY P w K mg base x (k + 1) ps n F := by
  subst hF
  obtain ⟨f, fd, h1, h2, h3⟩ := R.ex
  exact ⟨f, fd, h1, h2.kp, h3, gen_v h2 χ S nc hn (body f)⟩
end
def VY (X : Cx) (k : Nat) (e : Expr) (φ : Env → Res D) : Prop :=
  ∃ t : TGen, PGenC X k e t ∧ ∀ (H0 : Hp) (M0 M : Addr → Bool) (H : Hp) (σ : L2.St) (env : Env) (out : List D) (Q : List V → Hp → Prop), Good (gm X) H0 M0 M H σ env → φ env = .ok (.lst out) → (∀ ys H', Ext H H' → RpL (gm X) (Sh M (vw H')) out ys → Q ys H') → t σ H Q
def lstOnly : Res D → Res D
  | .ok (.lst ds) => .ok (.lst ds)
  | _ => .bad
def geE (φ : Env → Res D) (env : Env) : Res D := lstOnly (φ env)
section
variable {X : Cx} {W : WX} {e : Expr} {es : List Expr} {o : Expr} {φ φo : Env → Res D} {φs : Env → Res (List D)} {k n : Nat} {x c m y z : Str} {ps : List Str} {F : List D → Res D} {p pos apos p1 p2 pz spos : Pos} {scope : Scope} {own : List (Str × Nat)}
theorem vy_def (h : DefOkY X.prog X.w X.K X.mg X.base x k ps n F) (hr : Room k X.A) (ha : VA X W0 true (e :: es) φs) (hn : (e :: es).length = n) (hl : ∀ env ds, φs env = .ok ds → ds.length = n) (hg : Gl X x := by rfl) (hdb : (x == ("__debug__" : Str)) = false := by decide)
    (he : starEach (e :: es) X.env = (false, eval e X.env) :: starEach es X.env := by rfl) (hpl : (backTo pos (starEach es X.env)).any (·.1) = false := by rfl) : VY X k (.Call (.Name x p) (e :: es) [] pos) (aE F φs) := by
  obtain ⟨t, pt, r⟩ := ha
  obtain ⟨f, fd, x1, x2, x3, x4⟩ := h.ex
  refine ⟨_, pgenc_call x4 hr hg x1 x2 x3 .nil pt hdb he hpl, fun H0 M0 M H σ env out Q g hφ hQ => ?_⟩
  refine r H0 M0 M H σ env _ g ?_
  unfold aE at hφ
  cases q : φs env with
  | exc c fs => rw [q] at hφ; cases hφ
  | bad => rw [q] at hφ; cases hφ
  | ok ds =>
    rw [q] at hφ
    intro vs H1 e1 r1
    refine ⟨?_, M, ds, out, g.ok.mono e1, by rw [List.append_nil]; exact r1, hφ, fun ys H' e' r' => hQ ys H' (e1.trans e') r'⟩
    rw [List.append_nil, ← r1.length]
    exact hl env ds q
theorem gc_read {t : TGen} {M : Addr → Bool} {H H0 : Hp} {M0 : Addr → Bool} {σ : L2.St} {env : Env} {Q : VK} (r : ∀ (out : List D) (Q : List V → Hp → Prop), φ env = .ok (.lst out) → (∀ ys H', Ext H H' → RpL (gm X) (Sh M (vw H')) out ys → Q ys H') → t σ H Q)
    (h : PostN X W M σ H Q (geE φ env)) : tListG t σ H Q := by
  unfold geE at h
  cases q : φ env with
  | exc c fs => rw [q] at h; exact h.elim
  | bad => rw [q] at h; exact h.elim
  | ok d =>
    rw [q] at h
    cases d with
    | lst out => exact r out _ q fun ys H' e' r' p hp => h p _ (e'.fresh hp) (e'.trans (Ext.new hp)) (ow_newL hp r')
    | _ => exact h.elim
theorem vs_gcSet (i : Nat) (hN : X.N.Nodup) (hi : VY X k e φ) (ok : BlkOk X.N X.env.scope scope own) (hr : Room (k + 3) X.A) (hy : scope.names.lookup y = some .local := by rfl) (hdb : (y == ("__debug__" : Str)) = false := by decide) (hz : X.N[i]? = some z := by rfl) (hzl : X.env.scope.names.lookup z = some .local := by rfl)
    (hsw : swapsWith (.ListComp (.Name y p1) [⟨.Name y p2, e, [], 0⟩] scope pos) (some (.Name z pz)) spos.line X.env = pure true := by exact sw_true rfl rfl rfl (by decide +kernel)) (hs : ∀ x, foldedSetIterable e X.env x = pure x := by intro _; rfl) :
    VS X W (.Assign [.Name z pz] (.ListComp (.Name y p1) [⟨.Name y p2, e, [], 0⟩] scope pos) spos) (setS i (geE φ)) := by
  obtain ⟨t, pt, r⟩ := hi
  refine ⟨_, ps_setGc hN hz hzl hsw pt ok hr hy hdb hs, fun H0 M0 M H σ env D g h => gc_read (X := X) (W := W) (φ := φ) (H0 := H0) (M0 := M0) (fun out Q hφ hQ => r H0 M0 M H σ env out Q g hφ hQ) ?_⟩
  unfold setS at h
  cases q : geE φ env with
  | ok d =>
    rw [q] at h
    exact fun p H' hp e' o => h M H' _ ((g.mono e').set (OwOk.rpN (g.nm hp).1 o)) (Sh_mono e'.v)
  | exc c fs => rw [q] at h; exact fun cls dd H1 e1 r1 => h M H1 σ cls dd (g.mono e1) (Sh_mono e1.v) r1
  | bad => rw [q] at h; exact h
end
end VL

set_option maxHeartbeats 4000000
set_option autoImplicit true
namespace VL
open PySem L2
def b__law_draw : Env → SRes :=
  (seqS (ifS (tE (op2 eqO (getP 0) (aE lstD nilA))) (retS (cE (.int 0))) nxS)
  (seqS (setS 3 (aE intF (consA (op2 getD (getP 0) (op2 modD (aE intF (consA (getP 1) nilA)) (aE lenF (consA (getP 0) nilA)))) nilA)))
  (seqS (ifS (andT (tE (op2 ltD (getP 1) (aE lenF (consA (getP 0) nilA)))) (tE (op2 geD (getP 3) (op2 powD (cE (.int 10)) (cE (.int 18)))))) (seqS (setS 6 (getP 3))
  (seqS (forS (gnG 7) (aI range1 (consA (getP 2) nilA)) (setS 6 (op2 fdivD (getP 6) (cE (.int 1000)))))
  (ifS (tE (op2 gtD (getP 6) (cE (.int 0)))) (retS (op2 modD (aE intF (consA (getP 6) nilA)) (cE (.int 1000)))) nxS))) nxS)
  (seqS (setS 4 (op2 modD (aE intF (consA (op2 addD (op2 addD (op2 addD (op2 mulD (op2 modD (aE intF (consA (getP 3) nilA)) (cE (.int 2147483647))) (cE (.int 48271))) (op2 mulD (getP 1) (cE (.int 30269)))) (op2 mulD (getP 2) (cE (.int 69621)))) (cE (.int 11))) nilA)) (cE (.int 2147483647))))
  (seqS (setS 5 (op2 modD (aE intF (consA (op2 addD (op2 addD (op2 addD (op2 addD (op2 mulD (op2 modD (aE intF (consA (getP 4) nilA)) (cE (.int 46337))) (cE (.int 40692))) (op2 mulD (op2 fdivD (getP 4) (cE (.int 46337))) (cE (.int 16807)))) (op2 mulD (getP 2) (cE (.int 9973)))) (op2 mulD (getP 1) (cE (.int 211)))) (cE (.int 5))) nilA)) (cE (.int 2147483399))))
  (retS (op2 modD (aE intF (consA (op2 fdivD (getP 5) (cE (.int 16))) nilA)) (cE (.int 1000)))))))))
def m__law_draw : List D → Res D := defM 8 b__law_draw
def b__law_names : Env → SRes :=
  (seqS (setS 3 (cE (.str "abcdefghijklmnopqrstuvwxyz0123456789")))
  (seqS (setS 4 (op2 modD (aE m__law_draw (consA (getP 0) (consA (getP 1) (consA (cE (.int 0)) nilA)))) (cE (.int 3))))
  (seqS (setS 5 (op2 addD (cE (.str "m")) (strE joinD (cE (.str "")) (lcE [9] (gnG 9) (aI range1 (consA (cE (.int 12)) nilA)) yesT (op2 getD (getP 3) (op2 modD (aE m__law_draw (consA (getP 0) (consA (getP 1) (consA (op2 addD (cE (.int 1)) (getP 9)) nilA)))) (cE (.int 36))))))))
  (seqS (setS 6 (op2 addD (cE (.int 1)) (op2 modD (aE m__law_draw (consA (getP 0) (consA (getP 1) (consA (cE (.int 13)) nilA)))) (cE (.int 12)))))
  (seqS (setS 7 (op2 modD (aE m__law_draw (consA (getP 0) (consA (getP 1) (consA (cE (.int 14)) nilA)))) (getP 6)))
  (seqS (ownS 8 (aE lstD nilA))
  (seqS (forS (gnG 9) (aI range1 (consA (getP 2) nilA)) (seqS (setS 10 (aE m__law_draw (consA (getP 0) (consA (getP 1) (consA (op2 addD (cE (.int 15)) (getP 9)) nilA)))))
  (seqS (setS 11 (op2 addD (op2 getD (getP 3) (op2 modD (getP 10) (cE (.int 26)))) (slE (getP 5) (someO (cE (.int 1))) (someO (op2 addD (cE (.int 1)) (op2 modD (op2 fdivD (getP 10) (cE (.int 26))) (cE (.int 12))))))))
  (seqS (ifS (tE (op2 eqO (getP 4) (cE (.int 0)))) (setS 11 (op2 getD (cE (.str "abcdefgh")) (getP 9))) nxS)
  (seqS (ifS (tE (op2 eqO (getP 4) (cE (.int 1)))) (setS 11 (op2 addD (op2 addD (slE (getP 5) noO (someO (getP 7))) (op2 getD (getP 3) (op2 modD (aE intF (consA (op2 addD (getP 10) (getP 9)) nilA)) (cE (.int 26))))) (slE (getP 5) (someO (op2 addD (getP 7) (cE (.int 1)))) (someO (getP 6))))) nxS)
  (appS 8 (getP 11)))))))
  (giveS 8 (retS (getP 8))))))))))
def m__law_names : List D → Res D := defM 12 b__law_names
def b__law_raw_run : Env → SRes :=
  (seqS (setS 6 (aE tupD (consA (op2 getD (getP 3) (op2 modD (aE m__law_draw (consA (getP 0) (consA (getP 1) (consA (getP 2) nilA)))) (aE lenF (consA (getP 3) nilA)))) nilA)))
  (seqS (forS (gnG 7) (aI range1 (consA (op2 modD (aE m__law_draw (consA (getP 0) (consA (getP 1) (consA (op2 addD (getP 2) (cE (.int 1))) nilA)))) (op2 addD (getP 5) (cE (.int 1)))) nilA)) (seqS (setS 8 (aE m__law_draw (consA (getP 0) (consA (getP 1) (consA (op2 addD (op2 addD (getP 2) (cE (.int 2))) (getP 7)) nilA)))))
  (setS 6 (op2 addD (getP 6) (aE tupD (consA (op2 addD (op2 getD (aE lstD (consA (cE (.str "+")) (consA (cE (.str "-")) nilA))) (op2 modD (getP 8) (cE (.int 2)))) (op2 getD (getP 4) (op2 modD (op2 fdivD (getP 8) (cE (.int 2))) (aE lenF (consA (getP 4) nilA))))) nilA))))))
  (retS (getP 6))))
def m__law_raw_run : List D → Res D := defM 9 b__law_raw_run
def b__law_many : Env → SRes :=
  (retS (op2 getD (aE lstD (consA (cE (.int 1)) (consA (cE (.int 2)) (consA (cE (.int 3)) (consA (cE (.int 1)) (consA (cE (.int 2)) (consA (cE (.int 3)) (consA (cE (.int 5)) (consA (cE (.int 6)) nilA))))))))) (op2 modD (aE m__law_draw (consA (getP 0) (consA (cE (.int 0)) (consA (getP 1) nilA)))) (cE (.int 8)))))
def m__law_many : List D → Res D := defM 2 b__law_many
def b_prefixes : Env → List D → GRes :=
  (consGG (forG (gnG 1) (aI range2 (consA (cE (.int 1)) (consA (op2 addD (aE lenF (consA (getP 0) nilA)) (cE (.int 1))) nilA))) (consGG (yldG (slE (getP 0) noO (someO (getP 1))))
  nilGG))
  nilGG)
def m_prefixes : List D → Res D := genM 2 b_prefixes
def b__law_is_run : Env → SRes :=
  (seqS (ifS (orT (notT (tE (isTE "tuple" (getP 0)))) (tE (op2 eqO (aE lenF (consA (getP 0) nilA)) (cE (.int 0))))) (retS (cE (.bl false))) nxS)
  (seqS (forS (gnG 1) (iE (getP 0)) (ifS (notT (tE (isTE "str" (getP 1)))) (retS (cE (.bl false))) nxS))
  (retS (cE (.bl true)))))
def m__law_is_run : List D → Res D := defM 2 b__law_is_run
def b__law_asked : Env → SRes :=
  (seqS (setS 1 (geE (aE m_prefixes (consA (getP 0) nilA))))
  (seqS (ifS (tE (op2 neO (aE lenF (consA (getP 1) nilA)) (aE lenF (consA (getP 0) nilA)))) (retS (cE (.bl false))) nxS)
  (seqS (forS (gnG 2) (aI range1 (consA (aE lenF (consA (getP 0) nilA)) nilA)) (ifS (orT (notT (tE (aE m__law_is_run (consA (op2 getD (getP 1) (getP 2)) nilA)))) (tE (op2 neO (op2 getD (getP 1) (getP 2)) (slE (getP 0) noO (someO (op2 addD (getP 2) (cE (.int 1)))))))) (retS (cE (.bl false))) nxS))
  (retS (cE (.bl true))))))
def m__law_asked : List D → Res D := defM 4 b__law_asked
def b_law : Env → SRes :=
  (seqS (setS 1 (aE m__law_names (consA (getP 0) (consA (cE (.int 1)) (consA (aE m__law_many (consA (getP 0) (consA (cE (.int 0)) nilA))) nilA)))))
  (seqS (setS 2 (aE m__law_raw_run (consA (getP 0) (consA (cE (.int 3)) (consA (cE (.int 0)) (consA (aE m__law_names (consA (getP 0) (consA (cE (.int 2)) (consA (cE (.int 2)) nilA)))) (consA (getP 1) (consA (cE (.int 9)) nilA))))))))
  (seqS (setS 2 (op2 addD (getP 2) (op2 mulD (slE (getP 2) (someO (cE (.int 1))) noO) (op2 modD (aE m__law_draw (consA (getP 0) (consA (cE (.int 0)) (consA (cE (.int 1)) nilA)))) (cE (.int 6))))))
  (retS (andE (aE m__law_asked (consA (getP 2) nilA)) (andE (aE m__law_asked (consA (slE (getP 2) noO (someO (cE (.int 1)))) nilA)) (aE m__law_asked (consA (getP 2) nilA))))))))
def m_law : List D → Res D := defM 3 b_law
end VL
namespace VL
open PySem L2
local macro_rules
  | `(tactic| simp_arith [$xs,*]) => `(tactic| simp only [seq_eq, rSeq_nx, rSeq_rt, rSeq_bk, rSeq_ct, rSeq_xc, setS_eq, rSet_ok, ownS_eq, rOwn_ok, retS_eq, rRet_ok, retNS_eq, nxS_eq, bkS_eq, ctS_eq, dropS_eq, rDrop_ok, ifS_eq, rIf_t, rIf_f, asgS_eq, appS_eq, rApp_ok, giveS_eq, VL.give, gnG_eq, getP_eq, getB_eq, rGet_ok, rGetB_ok, rGetB_ow, cE_eq, op2_eq, r2_ok, aE_eq, aI_eq, iE_eq, tE_eq, someO_eq, notE_eq, isTE_eq, r1_ok, toB_ok, toI_ok, notD_ok, noO_eq, nilA_eq, consA_eq, rC_ok, andT_eq, orT_eq, notT_eq, rAnd_t, rAnd_f, rAnd_ok, rOr_t, rOr_f, rOr_ok, rNot_ok, andE_eq, orE_eq, rAndE_t, rAndE_f, rAndE_ok, rOrE_t, rOrE_f, rOrE_ok, ifE_eq, rIfE_ok, slE_eq, rSl_ok, chE_eq, rCh_le, rCh_lelt, rCh_ltlt, rCh_ltle, strE_eq, rStr_ok, immE_eq, rImm_ok, Sat_nx, Sat_rt, Sat_ct, Sat_bk, Sat_xc, thn_nx, thn_rt, thn_ct, thn_bk, thn_xc, lp_nx, lp_ct, lp_bk, lp_rt, lp_xc, add_int, sub_int, mod_int, fdiv_int, lt_int, le_int, gt_int, ge_int, isN_eq, notN_eq, isNon, len_lst, len_tup, len_scr, int_int, get_str, get_tup, get_lst, get_scr, items_str, items_lst, items_tup, lst_nil, sl_tup, sl_lst, isT_bl, eqO_int, eqO_bl, eqO_scr, neO_int, env0, List.map_cons, List.map_nil, List.cons_append, List.nil_append, List.length_cons, List.length_nil, List.replicate, gz_, gs_, sz_, ss_, if_true, if_false, reduceIte, Bool.not_true, Bool.not_false, Bool.false_eq_true, Nat.reduceAdd, Nat.reduceSub, Bool.false_or, Bool.or_false, Bool.true_or, Bool.or_true, Bool.and_true, Bool.true_and, Bool.and_false, Bool.false_and, wipeE, yesT, negE_eq, neg_int, retFS, outO, ofE_ok, str_str, ltX_int, ltX_str, inX_str, notInX_str, list_lst, list_tup, Sat_ro, thn_ro, lp_ro, raiseS_eq, rRaise_ok, raise0S_eq, isXE_eq, fldXE_eq, int_bl, rSet_xc, rDrop_xc, rRet_xc, r1_xc, rC_xc, r2_xc, rIf_xc, outI_nx, outI_rt, outI_nx0, outI_rt0, inE_s, inE_0, lst_k, tup_k, catl_k, Nat.reduceLeDiff, inWE_eq, inW_str, ixWE_eq, guardX_ok, getE_eq, putS_eq, rPut_ok, $xs,*])
local macro_rules
  | `(tactic| simp_all_arith [$xs,*]) => `(tactic| simp only [seq_eq, rSeq_nx, rSeq_rt, rSeq_bk, rSeq_ct, rSeq_xc, setS_eq, rSet_ok, ownS_eq, rOwn_ok, retS_eq, rRet_ok, retNS_eq, nxS_eq, bkS_eq, ctS_eq, dropS_eq, rDrop_ok, ifS_eq, rIf_t, rIf_f, asgS_eq, appS_eq, rApp_ok, giveS_eq, VL.give, gnG_eq, getP_eq, getB_eq, rGet_ok, rGetB_ok, rGetB_ow, cE_eq, op2_eq, r2_ok, aE_eq, aI_eq, iE_eq, tE_eq, someO_eq, notE_eq, isTE_eq, r1_ok, toB_ok, toI_ok, notD_ok, noO_eq, nilA_eq, consA_eq, rC_ok, andT_eq, orT_eq, notT_eq, rAnd_t, rAnd_f, rAnd_ok, rOr_t, rOr_f, rOr_ok, rNot_ok, andE_eq, orE_eq, rAndE_t, rAndE_f, rAndE_ok, rOrE_t, rOrE_f, rOrE_ok, ifE_eq, rIfE_ok, slE_eq, rSl_ok, chE_eq, rCh_le, rCh_lelt, rCh_ltlt, rCh_ltle, strE_eq, rStr_ok, immE_eq, rImm_ok, Sat_nx, Sat_rt, Sat_ct, Sat_bk, Sat_xc, thn_nx, thn_rt, thn_ct, thn_bk, thn_xc, lp_nx, lp_ct, lp_bk, lp_rt, lp_xc, add_int, sub_int, mod_int, fdiv_int, lt_int, le_int, gt_int, ge_int, isN_eq, notN_eq, isNon, len_lst, len_tup, len_scr, int_int, get_str, get_tup, get_lst, get_scr, items_str, items_lst, items_tup, lst_nil, sl_tup, sl_lst, isT_bl, eqO_int, eqO_bl, eqO_scr, neO_int, env0, List.map_cons, List.map_nil, List.cons_append, List.nil_append, List.length_cons, List.length_nil, List.replicate, gz_, gs_, sz_, ss_, if_true, if_false, reduceIte, Bool.not_true, Bool.not_false, Bool.false_eq_true, Nat.reduceAdd, Nat.reduceSub, Bool.false_or, Bool.or_false, Bool.true_or, Bool.or_true, Bool.and_true, Bool.true_and, Bool.and_false, Bool.false_and, wipeE, yesT, negE_eq, neg_int, retFS, outO, ofE_ok, str_str, ltX_int, ltX_str, inX_str, notInX_str, list_lst, list_tup, Sat_ro, thn_ro, lp_ro, raiseS_eq, rRaise_ok, raise0S_eq, isXE_eq, fldXE_eq, int_bl, rSet_xc, rDrop_xc, rRet_xc, r1_xc, rC_xc, r2_xc, rIf_xc, outI_nx, outI_rt, outI_nx0, outI_rt0, inE_s, inE_0, lst_k, tup_k, catl_k, Nat.reduceLeDiff, inWE_eq, inW_str, ixWE_eq, guardX_ok, getE_eq, putS_eq, rPut_ok, m_eq, outS_rt, outS_nx, outS_xc, tryS_eq, rTry_nx, rTry_rt, rTry_xc, hndS_eq, methE_eq, rMeth_ok, propE_eq, rProp_ok, lmE_eqR, rLm_ok, fldIE_eqR, $xs,*])
section
theorem log_lt {i : Int} (h0 : 0 ≤ i) (h : i < 2 ^ 62) : i.natAbs.log2 < 62 := by
  by_cases hz : i.natAbs = 0
  · rw [hz]; decide
  · exact (Nat.log2_lt hz).mpr (by omega)
theorem draw_tail (S : Sl) (k j c : Int) (hk : 0 ≤ k) (hk2 : k < 2 ^ 60) (hj : 0 ≤ j) (hj2 : j < 2 ^ 60) (e6 e7 : Sl) : ∃ z : Int, (
  (seqS (setS 4 (op2 modD (aE intF (consA (op2 addD (op2 addD (op2 addD (op2 mulD (op2 modD (aE intF (consA (getP 3) nilA)) (cE (.int 2147483647))) (cE (.int 48271))) (op2 mulD (getP 1) (cE (.int 30269)))) (op2 mulD (getP 2) (cE (.int 69621)))) (cE (.int 11))) nilA)) (cE (.int 2147483647))))
  (seqS (setS 5 (op2 modD (aE intF (consA (op2 addD (op2 addD (op2 addD (op2 addD (op2 mulD (op2 modD (aE intF (consA (getP 4) nilA)) (cE (.int 46337))) (cE (.int 40692))) (op2 mulD (op2 fdivD (getP 4) (cE (.int 46337))) (cE (.int 16807)))) (op2 mulD (getP 2) (cE (.int 9973)))) (op2 mulD (getP 1) (cE (.int 211)))) (cE (.int 5))) nilA)) (cE (.int 2147483399))))
  (retS (op2 modD (aE intF (consA (op2 fdivD (getP 5) (cE (.int 16))) nilA)) (cE (.int 1000)))))) [S, .sh (.int k), .sh (.int j), .sh (.int c), .no, .no, e6, e7]) = .rt (.int z) ∧ 0 ≤ z ∧ z < 1000 := by
  have m1 : ∀ {i a : Int}, 0 ≤ i → i < 2 ^ 62 → 0 ≤ a → a < 2 ^ 62 → mulD (.int i) (.int a) = .ok (.int (i * a)) := fun h0 h1 h2 h3 => mul_int (by have := log_lt h0 h1; have := log_lt h2 h3; omega)
  have e1 := @m1 (c % 2147483647) 48271 (Int.emod_nonneg _ (by decide)) (by have := Int.emod_lt_of_pos c (show (0 : Int) < 2147483647 by decide); omega) (by decide) (by decide)
  have e2 := @m1 k 30269 hk (by omega) (by decide) (by decide)
  have e3 := @m1 j 69621 hj (by omega) (by decide) (by decide)
  have e4 := @m1 j 9973 hj (by omega) (by decide) (by decide)
  have e5 := @m1 k 211 hk (by omega) (by decide) (by decide)
  have e6' : ∀ f : Int, mulD (.int (f % 2147483647 % 46337)) (.int 40692) = .ok (.int (f % 2147483647 % 46337 * 40692)) := fun f => m1 (Int.emod_nonneg _ (by decide)) (by have := Int.emod_lt_of_pos (f % 2147483647) (show (0 : Int) < 46337 by decide); omega) (by decide) (by decide)
  have e7' : ∀ f : Int, mulD (.int (f % 2147483647 / 46337)) (.int 16807) = .ok (.int (f % 2147483647 / 46337 * 16807)) := fun f => m1 (by omega) (by omega) (by decide) (by decide)
  simp_arith [Int.reduceLT, e1, e2, e3, e4, e5, e6', e7', and_self, SRes.rt.injEq, D.int.injEq]
  exact ⟨_, rfl, Int.emod_nonneg _ (by decide), Int.emod_lt_of_pos _ (by decide)⟩
theorem draw_ex (ns : List Int) (k j : Int) (hk : 0 ≤ k) (hk2 : k < 2 ^ 60) (hj : 0 ≤ j) (hj2 : j < 2 ^ 60) : ∃ d, m__law_draw [.scr ns, .int k, .int j] = .ok d ∧ ∃ z : Int, d = .int z ∧ 0 ≤ z ∧ z < 1000 := by
  refine m_ex ?_
  unfold b__law_draw
  cases hns : ns with
  | nil => simp_arith [List.isEmpty_nil]; exact ⟨0, rfl, by decide, by decide⟩
  | cons n0 nr =>
    rw [← hns]
    have hne : ns.isEmpty = false := by rw [hns]; rfl
    have hl : 0 < ns.length := by rw [hns]; exact Nat.succ_pos _
    have hl' : (0 : Int) < ns.length := by omega
    obtain ⟨c, hc⟩ : ∃ c : Int, seqGet (ns.map D.int) (k % (ns.length : Int)) = .ok (.int c) := by
      have hm : (k % (ns.length : Int)).toNat < ns.length := by
        have := Int.emod_lt_of_pos k hl'
        have := Int.emod_nonneg k (show (ns.length : Int) ≠ 0 by omega)
        omega
      refine ⟨ns[(k % (ns.length : Int)).toNat], ?_⟩
      have := @seqGet_of (ns.map D.int) (k % (ns.length : Int)).toNat (.int ns[(k % (ns.length : Int)).toNat]) (by rw [List.getElem?_map, List.getElem?_eq_getElem hm]; rfl)
      rwa [Int.toNat_of_nonneg (Int.emod_nonneg k (by omega))] at this
    have tl : ∀ e6 e7, Sat { rt := fun d => ∃ z : Int, d = .int z ∧ 0 ≤ z ∧ z < 1000 } _ := fun e6 e7 => by
      obtain ⟨z, h1, h2⟩ := draw_tail (.sh (.scr ns)) k j c hk hk2 hj hj2 e6 e7
      exact Sat.rt h1 ⟨z, rfl, h2⟩
    simp only [seq_eq, ifS_eq, setS_eq, seq_eq, rSeq_nx, rSeq_rt, rSeq_bk, rSeq_ct, rSeq_xc, setS_eq, rSet_ok, ownS_eq, rOwn_ok, retS_eq, rRet_ok, retNS_eq, nxS_eq, bkS_eq, ctS_eq, dropS_eq, rDrop_ok, ifS_eq, rIf_t, rIf_f, asgS_eq, appS_eq, rApp_ok, giveS_eq, VL.give, gnG_eq, getP_eq, getB_eq, rGet_ok, rGetB_ok, rGetB_ow, cE_eq, op2_eq, r2_ok, aE_eq, aI_eq, iE_eq, tE_eq, someO_eq, notE_eq, isTE_eq, r1_ok, toB_ok, toI_ok, notD_ok, noO_eq, nilA_eq, consA_eq, rC_ok, andT_eq, orT_eq, notT_eq, rAnd_t, rAnd_f, rAnd_ok, rOr_t, rOr_f, rOr_ok, rNot_ok, andE_eq, orE_eq, rAndE_t, rAndE_f, rAndE_ok, rOrE_t, rOrE_f, rOrE_ok, ifE_eq, rIfE_ok, slE_eq, rSl_ok, chE_eq, rCh_le, rCh_lelt, rCh_ltlt, rCh_ltle, strE_eq, rStr_ok, immE_eq, rImm_ok, Sat_nx, Sat_rt, Sat_ct, Sat_bk, Sat_xc, thn_nx, thn_rt, thn_ct, thn_bk, thn_xc, lp_nx, lp_ct, lp_bk, lp_rt, lp_xc, add_int, sub_int, mod_int, fdiv_int, lt_int, le_int, gt_int, ge_int, isN_eq, notN_eq, isNon, len_lst, len_tup, len_scr, int_int, get_str, get_tup, get_lst, get_scr, items_str, items_lst, items_tup, lst_nil, sl_tup, sl_lst, isT_bl, eqO_int, eqO_bl, eqO_scr, neO_int, env0, List.map_cons, List.map_nil, List.cons_append, List.nil_append, List.length_cons, List.length_nil, List.replicate, gz_, gs_, sz_, ss_, if_true, if_false, reduceIte, Bool.not_true, Bool.not_false, Bool.false_eq_true, Nat.reduceAdd, Nat.reduceSub, Bool.false_or, Bool.or_false, Bool.true_or, Bool.or_true, Bool.and_true, Bool.true_and, Bool.and_false, Bool.false_and, wipeE, yesT, negE_eq, neg_int, retFS, outO, ofE_ok, str_str, ltX_int, ltX_str, inX_str, notInX_str, list_lst, list_tup, Sat_ro, thn_ro, lp_ro, raiseS_eq, rRaise_ok, raise0S_eq, isXE_eq, fldXE_eq, int_bl, rSet_xc, rDrop_xc, rRet_xc, r1_xc, rC_xc, r2_xc, rIf_xc, outI_nx, outI_rt, outI_nx0, outI_rt0, inE_s, inE_0, lst_k, tup_k, catl_k, Nat.reduceLeDiff, inWE_eq, inW_str, ixWE_eq, guardX_ok, getE_eq, putS_eq, rPut_ok, hne, lenF, hl', hc, pow_18]
    refine Sat.rseq (Sat.ifb (fun _ => ?_) (fun _ => ?_))
    · simp_arith []
      refine Sat.rseq (Sat.forS0 (fun env => ∃ (r : Int) (x : Sl), env = [.sh (.scr ns), .sh (.int k), .sh (.int j), .sh (.int c), .no, .no, .sh (.int r), x]) (ds := rangeD 0 j.toNat) ?_ ⟨c, _, rfl⟩ ?_ ?_)
      · simp_arith []
        exact range1_ok (by omega)
      · rintro d _ env ⟨r, x, rfl⟩
        refine ⟨_, rfl, ?_⟩
        simp_arith [Int.reduceLT, and_self]
        exact ⟨_, _, rfl⟩
      · rintro env ⟨r, x, rfl⟩
        simp_arith []
        refine Sat.ifb (fun _ => ?_) (fun _ => ?_)
        · simp_arith [Int.reduceLT, and_self]
          exact ⟨_, rfl, Int.emod_nonneg _ (by decide), Int.emod_lt_of_pos _ (by decide)⟩
        · simp only [nxS_eq, Sat_nx, thn_nx]
          exact tl _ _
    · simp only [nxS_eq, Sat_nx, thn_nx]
      exact tl _ _
def dr (ns : List Int) (k j : Int) : Int := match m__law_draw [.scr ns, .int k, .int j] with
  | .ok (.int z) => z
  | _ => 0
theorem draw_all (ns : List Int) (k j : Int) (hk : 0 ≤ k) (hk2 : k < 2 ^ 60) (hj : 0 ≤ j) (hj2 : j < 2 ^ 60) : m__law_draw [.scr ns, .int k, .int j] = .ok (.int (dr ns k j)) ∧ 0 ≤ dr ns k j ∧ dr ns k j < 1000 := by
  obtain ⟨d, h1, z, rfl, h2, h3⟩ := draw_ex ns k j hk hk2 hj hj2
  have : dr ns k j = z := by unfold dr; rw [h1]
  rw [this]
  exact ⟨h1, h2, h3⟩
theorem draw_nn (ns : List Int) (k j : Nat) (hk : k < 2 ^ 60) (hj : j < 2 ^ 60) : m__law_draw [.scr ns, .int k, .int j] = .ok (.int (dr ns k j)) := (draw_all ns k j (by omega) (by omega) (by omega) (by omega)).1

end
section
def lowL : List Nat := ("abcdefghijklmnopqrstuvwxyz" : Str).cps.toList
def digL : List Nat := ("0123456789" : Str).cps.toList
def namL (cs : List Nat) : Bool := decide (1 ≤ cs.length) && decide (cs.length ≤ 12) && (match cs with | c :: _ => decide (c ∈ lowL) | [] => false) && cs.all fun c => decide (c ∈ lowL) || decide (c ∈ digL)
def nameB (s : Str) : Bool := namL s.cps.toList
theorem len_cut (z : Str) (l u : Option Int) : (cutS z l u).length ≤ z.length := by
  unfold cutS
  rw [str_len]
  show ((z.cps.toList.drop _).take _).length ≤ z.cps.toList.length
  rw [List.length_take, List.length_drop]
  omega
theorem rep_len {α : Type} (n : Nat) (l : List α) : (List.replicate n l).flatten.length = n * l.length := by
  induction n with
  | zero => simp
  | succ n ih => rw [List.replicate_succ, List.flatten_cons, List.length_append, ih, Nat.succ_mul]; omega

end
section
def abc36 : Str := "abcdefghijklmnopqrstuvwxyz0123456789"
theorem abc36_len : abc36.length = 36 := by decide +kernel
theorem abc36_all : ∀ c ∈ abc36.cps.toList, c ∈ lowL ∨ c ∈ digL := by decide +kernel
def partB (s : Str) : Prop := ∀ c ∈ s.cps.toList, c ∈ lowL ∨ c ∈ digL
theorem name_of {s : Str} {c : Nat} {r : List Nat} (h : s.cps.toList = c :: r) (hc : c ∈ lowL) (hr : ∀ c ∈ r, c ∈ lowL ∨ c ∈ digL) (hl : r.length ≤ 11) : nameB s = true := by
  unfold nameB namL
  rw [h]
  have e1 : decide (1 ≤ (c :: r).length) = true := decide_eq_true (by rw [List.length_cons]; omega)
  have e2 : decide ((c :: r).length ≤ 12) = true := decide_eq_true (by rw [List.length_cons]; omega)
  have e3 : (c :: r).all (fun c => decide (c ∈ lowL) || decide (c ∈ digL)) = true := List.all_eq_true.mpr fun x hx => by
    rcases List.mem_cons.mp hx with rfl | hx
    · rw [decide_eq_true hc]; rfl
    · rcases hr x hx with h | h
      · rw [decide_eq_true h]; rfl
      · rw [decide_eq_true h, Bool.or_true]
  simp only [e1, e2, e3, decide_eq_true hc, Bool.and_self]
theorem cut_toList (z : Str) (l u : Option Int) : (cutS z l u).cps.toList = (z.cps.toList.drop (HT.sIx z.length 0 l)).take (HT.sIx z.length z.length u - HT.sIx z.length 0 l) := rfl
theorem strGet_low (m : Int) (hm0 : 0 ≤ m) (hm : m < 26) : ∃ c, strGet abc36 m = .ok (.str ⟨#[c]⟩) ∧ c ∈ lowL := by
  obtain ⟨m, rfl⟩ := Int.eq_ofNat_of_zero_le hm0
  obtain ⟨c, h1, h2⟩ := @strGet_of abc36 m (by rw [abc36_len]; decide) (by rw [abc36_len]; omega)
  refine ⟨c, h2, ?_⟩
  have : ∀ i : Fin 26, ∀ c, abc36.cps.toList[i.1]? = some c → c ∈ lowL := by
    have : (List.range 26).all (fun i => match abc36.cps.toList[i]? with | some c => decide (c ∈ lowL) | none => true) = true := by decide +kernel
    intro i c h
    have := List.all_eq_true.mp this i.1 (List.mem_range.mpr i.2)
    rw [h] at this
    exact of_decide_eq_true this
  exact this ⟨m, by omega⟩ c h1
theorem names_base (ns : List Int) (k : Nat) (hk : k < 2 ^ 59) (x2 x4 x5 x6 x7 x8 x9 x10 x11 : Sl) : ∃ b : Str, strE joinD (cE (.str "")) (lcE [9] (gnG 9) (aI range1 (consA (cE (.int 12)) nilA)) yesT (op2 getD (getP 3) (op2 modD (aE m__law_draw (consA (getP 0) (consA (getP 1) (consA (op2 addD (cE (.int 1)) (getP 9)) nilA)))) (cE (.int 36))))) [.sh (.scr ns), .sh (.int (k : Int)), x2, .sh (.str abc36), x4, x5, x6, x7, x8, x9, x10, x11] = .ok (.str b) ∧ b.length = 12 ∧ partB b := by
  obtain ⟨ys, h1, h2, h3⟩ := lcE_ex (vs := [9]) (γ := gnG 9) (φ := op2 getD (getP 3) (op2 modD (aE m__law_draw (consA (getP 0) (consA (getP 1) (consA (op2 addD (cE (.int 1)) (getP 9)) nilA)))) (cE (.int 36)))) (ι := aI range1 (consA (cE (.int 12)) nilA)) (env := [.sh (.scr ns), .sh (.int (k : Int)), x2, .sh (.str abc36), x4, x5, x6, x7, x8, x9, x10, x11])
    (fun d => ∃ c : Nat, d = .str ⟨#[c]⟩ ∧ (c ∈ lowL ∨ c ∈ digL)) (ds := rangeD 0 12) rfl (by rw [rangeD_len]; decide) (fun d hd => by
      obtain ⟨i, hi, rfl⟩ := rangeD_mem hd
      refine ⟨_, rfl, ?_⟩
      have hd := (draw_all ns k (1 + (0 + (i : Int))) (by omega) (by omega) (by omega) (by omega)).1
      obtain ⟨c, h1, h2⟩ := pick_str abc36 36 (by rw [abc36_len]; decide) (by decide) (by rw [abc36_len]; decide) (dr ns k (1 + (0 + (i : Int))))
      refine ⟨.str ⟨#[c]⟩, ?_, c, rfl, abc36_all c h2⟩
      simp_arith [Int.reduceLT, hd, h1])
  obtain ⟨cs, rfl⟩ : ∃ cs : List Nat, ys = cs.map fun c => D.str ⟨#[c]⟩ := by
    clear h1 h2
    induction ys with
    | nil => exact ⟨[], rfl⟩
    | cons y ys ih =>
      obtain ⟨cs, rfl⟩ := ih fun y hy => h3 y (List.mem_cons_of_mem _ hy)
      obtain ⟨c, rfl, _⟩ := h3 y (List.mem_cons_self ..)
      exact ⟨c :: cs, rfl⟩
  rw [List.length_map, rangeD_len] at h2
  have hm : ∀ c ∈ cs, c ∈ lowL ∨ c ∈ digL := fun c hc => by
    obtain ⟨c', e, h⟩ := h3 (.str ⟨#[c]⟩) (List.mem_map.mpr ⟨c, hc, rfl⟩)
    cases e
    exact h
  have hj := join_of (Str.ofString "") (cs.map fun c => (⟨#[c]⟩ : Str)) (by
    have := sum_le (cs.map fun c => (⟨#[c]⟩ : Str)) 1 (fun s hs => by
      obtain ⟨c, _, rfl⟩ := List.mem_map.mp hs
      exact Nat.le_refl 1)
    rw [List.length_map, h2] at *
    have e : (Str.ofString "").length = 0 := by decide +kernel
    rw [e]
    omega)
  have hf : ∀ l : List Nat, ((l.map fun c => (⟨#[c]⟩ : Str)).map fun s => s.cps.toList).flatten = l := by
    intro l
    induction l with
    | nil => rfl
    | cons c l ih =>
      rw [List.map_cons, List.map_cons, List.flatten_cons, ih]
      rfl
  refine ⟨Txt.join (Str.ofString "") (cs.map fun c => (⟨#[c]⟩ : Str)), ?_, ?_, ?_⟩
  · simp only [strE_eq, cE_eq, h1, rStr_ok]
    rw [List.map_map] at hj
    exact hj
  · rw [str_len, tl_join0, hf, h2]
  · unfold partB
    rw [tl_join0, hf]
    exact hm

end
section
theorem m_tl : ("m" : Str).cps.toList = [109] := by decide +kernel
theorem names_ex (ns : List Int) (k many : Nat) (hk : k < 2 ^ 59) (hm : many ≤ 8) : ∃ l : List Str, m__law_names [.scr ns, .int (k : Int), .int (many : Int)] = .ok (.lst (l.map .str)) ∧ l.length = many ∧ ∀ s ∈ l, nameB s = true := by
  have key : ∃ d, m__law_names [.scr ns, .int (k : Int), .int (many : Int)] = .ok d ∧ ∃ l : List Str, d = .lst (l.map .str) ∧ l.length = many ∧ ∀ s ∈ l, nameB s = true := by
    refine m_ex ?_
    unfold b__law_names
    have dd : ∀ j : Nat, j < 100 → m__law_draw [.scr ns, .int (k : Int), .int (j : Int)] = .ok (.int (dr ns k j)) := fun j hj => draw_nn ns k j (by omega) (by omega)
    have d0 : m__law_draw [.scr ns, .int (k : Int), .int 0] = .ok (.int (dr ns k 0)) := dd 0 (by decide)
    have d13 : m__law_draw [.scr ns, .int (k : Int), .int 13] = .ok (.int (dr ns k 13)) := dd 13 (by decide)
    have d14 : m__law_draw [.scr ns, .int (k : Int), .int 14] = .ok (.int (dr ns k 14)) := dd 14 (by decide)
    refine Sat.seq (Sat.nx rfl ?_)
    show Sat _ (seqS _ _ [.sh (.scr ns), .sh (.int (k : Int)), .sh (.int (many : Int)), .sh (.str abc36), .no, .no, .no, .no, .no, .no, .no, .no])
    rw [seq_eq]
    simp only [setS_eq, op2_eq, aE_eq, consA_eq, nilA_eq, getP_eq, cE_eq, gz_, gs_, rGet_ok, rC_ok, r1_ok, d0, r2_ok, mod_int, Int.reduceLT, rSet_ok, rSeq_nx, sz_, ss_]
    generalize dr ns k 0 % 3 = mode
    obtain ⟨b, hb, hbl, hbp⟩ := names_base ns k hk (.sh (.int (many : Int))) (.sh (.int mode)) .no .no .no .no .no .no .no
    have hB : addD (.str "m") (.str b) = .ok (.str (("m" : Str) ++ b)) := add_str (le_line (by rw [hbl]; decide +kernel))
    rw [seq_eq, setS_eq, op2_eq, hb]
    simp only [cE_eq, r2_ok, hB, rSet_ok, rSeq_nx, sz_, ss_]
    have hBt : (("m" : Str) ++ b).cps.toList = 109 :: b.cps.toList := by rw [str_app, m_tl]; rfl
    have hBl : (("m" : Str) ++ b).length = 13 := by rw [str_app_len, hbl]; decide +kernel
    generalize ("m" : Str) ++ b = B at hBt hBl
    have z0 := Int.emod_nonneg (dr ns k 13) (show (12 : Int) ≠ 0 by decide)
    have z1 := Int.emod_lt_of_pos (dr ns k 13) (show (0 : Int) < 12 by decide)
    have hz : (0 : Int) < 1 + dr ns k 13 % 12 := by omega
    simp_arith [d13, d14, mod_int (show (0 : Int) < 12 by decide), mod_int hz]
    generalize dr ns k 13 % 12 = z at z0 z1 hz
    have p0 := Int.emod_nonneg (dr ns k 14) (show 1 + z ≠ 0 by omega)
    have p1 := Int.emod_lt_of_pos (dr ns k 14) hz
    generalize dr ns k 14 % (1 + z) = p at p0 p1
    obtain ⟨z, rfl⟩ := Int.eq_ofNat_of_zero_le z0
    obtain ⟨p, rfl⟩ := Int.eq_ofNat_of_zero_le p0
    let I : Nat → Env → Prop := fun i env => ∃ (l : List Str) (x y w : Sl), env = [.sh (.scr ns), .sh (.int (k : Int)), .sh (.int (many : Int)), .sh (.str abc36), .sh (.int mode), .sh (.str B), .sh (.int (1 + (z : Int))), .sh (.int (p : Int)), .ow (.lst (l.map .str)), x, y, w] ∧ l.length = i ∧ ∀ s ∈ l, nameB s = true
    refine Sat.rseq ?_
    with_reducible refine Sat.forS I (ds := rangeD 0 many) ?_ ?_ ?_ ?_
    · simp_arith []
      rw [range1_nat (by omega)]
    · exact ⟨[], _, _, _, rfl, rfl, by simp⟩
    · rintro i d env hd ⟨l, x, y, w, rfl, hl, hall⟩
      obtain ⟨hi, rfl⟩ := rangeD_get hd
      refine ⟨_, rfl, ?_⟩
      have hdi : m__law_draw [.scr ns, .int (k : Int), .int (15 + (0 + (i : Int)))] = .ok (.int (dr ns k (15 + (0 + (i : Int))))) := (draw_all ns k _ (by omega) (by omega) (by omega) (by omega)).1
      have hBp : ∀ c ∈ b.cps.toList, c ∈ lowL ∨ c ∈ digL := hbp
      -- the last: append
      have fin : ∀ (s : Str) (x9 x10 : Sl), nameB s = true → Sat (((Post.mk (fun _ => False) (fun _ => False) (fun _ => False) (fun d => ∃ l : List Str, d = .lst (l.map .str) ∧ l.length = many ∧ ∀ s ∈ l, nameB s = true) (fun _ _ _ => False) (fun _ => False)).thn (giveS 8 (retS (getP 8)))).lp (I (i + 1))) (appS 8 (getP 11) [.sh (.scr ns), .sh (.int (k : Int)), .sh (.int (many : Int)), .sh (.str abc36), .sh (.int mode), .sh (.str B), .sh (.int (1 + (z : Int))), .sh (.int (p : Int)), .ow (.lst (l.map .str)), x9, x10, .sh (.str s)]) := fun s x9 x10 hs => by
        have hlt : (l.map D.str).length < sizeLine := by rw [List.length_map]; exact Nat.lt_of_lt_of_le (show l.length < 1000000 by omega) (le_line (Nat.le_refl _))
        simp_arith [if_pos hlt]
        refine ⟨l ++ [s], _, _, _, by rw [List.map_append]; rfl, by rw [List.length_append, hl]; rfl, fun t ht => ?_⟩
        rcases List.mem_append.mp ht with h | h
        · exact hall t h
        · rw [List.mem_singleton.mp h]; exact hs
      obtain ⟨c, hc, hcl⟩ := strGet_low (dr ns k (15 + (0 + (i : Int))) % 26) (Int.emod_nonneg _ (by decide)) (Int.emod_lt_of_pos _ (by decide))
      have y0 := Int.emod_nonneg (dr ns k (15 + (0 + (i : Int))) / 26) (show (12 : Int) ≠ 0 by decide)
      have y1 := Int.emod_lt_of_pos (dr ns k (15 + (0 + (i : Int))) / 26) (show (0 : Int) < 12 by decide)
      have hBn : ∀ (u : Option Int) (q : Nat) (c : Nat), c ∈ (cutS B (some ((q + 1 : Nat) : Int)) u).cps.toList → c ∈ lowL ∨ c ∈ digL := fun u q c h => by
        rw [cut_toList, HT.sIx_nat, hBt, hBl] at h
        have h' := List.mem_of_mem_take h
        have : ∃ q', min (q + 1) 13 = q' + 1 := ⟨min (q + 1) 13 - 1, by omega⟩
        obtain ⟨q', e⟩ := this
        rw [e, List.drop_succ_cons] at h'
        exact hBp c (List.mem_of_mem_drop h')
      have hsl : sliceD (.str B) (some 1) (some (1 + dr ns k (15 + (0 + (i : Int))) / 26 % 12)) = .ok (.str (cutS B (some 1) (some (1 + dr ns k (15 + (0 + (i : Int))) / 26 % 12)))) := sl_str (le_line (by omega))
      have ha : addD (.str ⟨#[c]⟩) (.str (cutS B (some 1) (some (1 + dr ns k (15 + (0 + (i : Int))) / 26 % 12)))) = .ok (.str ((⟨#[c]⟩ : Str) ++ cutS B (some 1) (some (1 + dr ns k (15 + (0 + (i : Int))) / 26 % 12)))) := add_str (le_line (by have := len_cut B (some 1) (some (1 + dr ns k (15 + (0 + (i : Int))) / 26 % 12)); rw [str_sing]; omega))
      have hn0 : nameB ((⟨#[c]⟩ : Str) ++ cutS B (some 1) (some (1 + dr ns k (15 + (0 + (i : Int))) / 26 % 12))) = true := by
        refine name_of (c := c) (r := (cutS B (some 1) (some (1 + dr ns k (15 + (0 + (i : Int))) / 26 % 12))).cps.toList) (by rw [str_app]; rfl) hcl (fun c h => hBn _ 0 c h) ?_
        generalize dr ns k (15 + (0 + (i : Int))) / 26 % 12 = yy at y0 y1
        obtain ⟨yy, rfl⟩ := Int.eq_ofNat_of_zero_le y0
        rw [cut_toList, List.length_take, show (1 : Int) + (yy : Int) = ((1 + yy : Nat) : Int) by omega, HT.sIx_nat, show (1 : Int) = ((1 : Nat) : Int) from rfl, HT.sIx_nat, hBl]
        omega
      simp_arith [Int.reduceLT, and_self, hdi, show strGet abc36 (dr ns k (15 + (0 + (i : Int))) % 26) = .ok (.str ⟨#[c]⟩) from hc, hsl, ha]
      generalize (⟨#[c]⟩ : Str) ++ cutS B (some 1) (some (1 + dr ns k (15 + (0 + (i : Int))) / 26 % 12)) = nm at hn0
      -- mode 0, then mode 1
      have rest : ∀ (s : Str), nameB s = true → Sat (((Post.mk (fun _ => False) (fun _ => False) (fun _ => False) (fun d => ∃ l : List Str, d = .lst (l.map .str) ∧ l.length = many ∧ ∀ s ∈ l, nameB s = true) (fun _ _ _ => False) (fun _ => False)).thn (giveS 8 (retS (getP 8)))).lp (I (i + 1))) (seqS (ifS (tE (op2 eqO (getP 4) (cE (.int 1)))) (setS 11 (op2 addD (op2 addD (slE (getP 5) noO (someO (getP 7))) (op2 getD (getP 3) (op2 modD (aE intF (consA (op2 addD (getP 10) (getP 9)) nilA)) (cE (.int 26))))) (slE (getP 5) (someO (op2 addD (getP 7) (cE (.int 1)))) (someO (getP 6))))) nxS) (appS 8 (getP 11)) [.sh (.scr ns), .sh (.int (k : Int)), .sh (.int (many : Int)), .sh (.str abc36), .sh (.int mode), .sh (.str B), .sh (.int (1 + (z : Int))), .sh (.int (p : Int)), .ow (.lst (l.map .str)), .sh (.int (0 + (i : Int))), .sh (.int (dr ns k (15 + (0 + (i : Int))))), .sh (.str s)]) := fun s hs => by
        rw [seq_eq]
        simp only [ifS_eq, tE_eq, op2_eq, getP_eq, cE_eq, gz_, gs_, rGet_ok, r2_ok, r1_ok, eqO_int, toB_ok]
        refine Sat.rseq (Sat.ifP (fun _ => ?_) (fun _ => ?_))
        · obtain ⟨c2, hc2, hcl2⟩ := strGet_low ((dr ns k (15 + (0 + (i : Int))) + (0 + (i : Int))) % 26) (Int.emod_nonneg _ (by decide)) (Int.emod_lt_of_pos _ (by decide))
          have s1 : sliceD (.str B) none (some (p : Int)) = .ok (.str (cutS B none (some (p : Int)))) := sl_str (le_line (by omega))
          have s2 : sliceD (.str B) (some ((p : Int) + 1)) (some (1 + (z : Int))) = .ok (.str (cutS B (some ((p : Int) + 1)) (some (1 + (z : Int))))) := sl_str (le_line (by omega))
          have l1 := len_cut B none (some (p : Int))
          have l2 := len_cut B (some ((p : Int) + 1)) (some (1 + (z : Int)))
          have a1 : addD (.str (cutS B none (some (p : Int)))) (.str ⟨#[c2]⟩) = .ok (.str (cutS B none (some (p : Int)) ++ ⟨#[c2]⟩)) := add_str (le_line (by rw [str_sing]; omega))
          have a2 : addD (.str (cutS B none (some (p : Int)) ++ ⟨#[c2]⟩)) (.str (cutS B (some ((p : Int) + 1)) (some (1 + (z : Int))))) = .ok (.str (cutS B none (some (p : Int)) ++ ⟨#[c2]⟩ ++ cutS B (some ((p : Int) + 1)) (some (1 + (z : Int))))) := add_str (le_line (by rw [str_app_len, str_sing]; omega))
          simp_arith [Int.reduceLT, s1, s2, show strGet abc36 ((dr ns k (15 + (0 + (i : Int))) + (0 + (i : Int))) % 26) = .ok (.str ⟨#[c2]⟩) from hc2, a1, a2]
          refine fin _ _ _ ?_
          have t2 : ∀ c ∈ (cutS B (some ((p : Int) + 1)) (some (1 + (z : Int)))).cps.toList, c ∈ lowL ∨ c ∈ digL := fun c h => hBn _ p c h
          have t2l : (cutS B (some ((p : Int) + 1)) (some (1 + (z : Int)))).cps.toList.length ≤ z - p := by
            rw [cut_toList, List.length_take, show (1 : Int) + (z : Int) = ((1 + z : Nat) : Int) by omega, show (p : Int) + 1 = ((p + 1 : Nat) : Int) by omega, HT.sIx_nat, HT.sIx_nat, hBl]
            omega
          have t1 : (cutS B none (some (p : Int))).cps.toList = B.cps.toList.take p := by
            rw [cut_toList, HT.sIx_nat, HT.sIx_none, hBl, List.drop_zero, Nat.sub_zero, Nat.min_eq_left (by omega)]
          cases p with
          | zero =>
            refine name_of (c := c2) (r := (cutS B (some (((0 : Nat) : Int) + 1)) (some (1 + (z : Int)))).cps.toList) ?_ hcl2 t2 (by omega)
            rw [str_app, str_app, t1]
            rfl
          | succ p =>
            refine name_of (c := 109) (r := b.cps.toList.take p ++ c2 :: (cutS B (some (((p + 1 : Nat) : Int) + 1)) (some (1 + (z : Int)))).cps.toList) ?_ (by decide +kernel) ?_ ?_
            · rw [str_app, str_app, t1, hBt, List.take_succ_cons]
              simp
            · intro c hc
              rcases List.mem_append.mp hc with h | h
              · exact hBp c (List.mem_of_mem_take h)
              · rcases List.mem_cons.mp h with rfl | h
                · exact .inl hcl2
                · exact t2 c h
            · rw [List.length_append, List.length_cons, List.length_take]
              omega
        · simp only [nxS_eq, Sat_nx, thn_nx]
          exact fin s _ _ hs
      refine Sat.rseq (Sat.ifP (fun _ => ?_) (fun _ => ?_))
      · have h8 : Str.length "abcdefgh" = 8 := by decide +kernel
        obtain ⟨c3, h3, h4⟩ := @strGet_of "abcdefgh" i (by decide +kernel) (by rw [h8]; omega)
        simp only [setS_eq, op2_eq, cE_eq, getP_eq, gz_, gs_, rGet_ok, r2_ok, get_str, Int.zero_add, h4, rSet_ok, Sat_nx, thn_nx, sz_, ss_]
        have := rest ⟨#[c3]⟩ (name_of (c := c3) (r := []) rfl (by
          have : ∀ c ∈ ("abcdefgh" : Str).cps.toList, c ∈ lowL := by decide +kernel
          exact this c3 (List.mem_of_getElem? h3)) (by simp) (by simp))
        rw [Int.zero_add] at this
        exact this
      · simp only [nxS_eq, Sat_nx, thn_nx]
        exact rest nm hn0
    · rintro env ⟨l, x, y, w, rfl, hl, hall⟩
      rw [rangeD_len] at hl
      simp_arith []
      exact ⟨l, rfl, hl, hall⟩
  obtain ⟨d, h1, l, rfl, h2, h3⟩ := key
  exact ⟨l, h1, h2, h3⟩

end
section
theorem okS_of {s : Str} (h : ∀ c ∈ s.cps.toList, c < 0x110000) : okS s = true := by
  unfold okS
  rw [Array.all_eq_true]
  intro i hi
  exact decide_eq_true (h _ (by rw [Array.mem_toList_iff]; exact Array.getElem_mem hi))
theorem low_lt : ∀ c ∈ lowL, c < 0x110000 := by decide +kernel
theorem dig_lt : ∀ c ∈ digL, c < 0x110000 := by decide +kernel
theorem name_parts {s : Str} (h : nameB s = true) : ∃ c r, s.cps.toList = c :: r ∧ c ∈ lowL ∧ (∀ c ∈ s.cps.toList, c ∈ lowL ∨ c ∈ digL) ∧ s.length ≤ 12 := by
  unfold nameB namL at h
  simp only [Bool.and_eq_true, decide_eq_true_eq, List.all_eq_true, Bool.or_eq_true] at h
  obtain ⟨⟨⟨_, h2⟩, h3⟩, h4⟩ := h
  cases q : s.cps.toList with
  | nil => rw [q] at h3; cases h3
  | cons c r =>
    rw [q] at h3 h4
    exact ⟨c, r, rfl, of_decide_eq_true h3, h4, h2⟩
theorem name_ok {s : Str} (h : nameB s = true) : okS s = true := by
  obtain ⟨c, r, _, _, h4, _⟩ := name_parts h
  exact okS_of fun c hc => (h4 c hc).elim (low_lt c) (dig_lt c)
theorem plus_tl : ("+" : Str).cps.toList = [43] := by decide +kernel
theorem minus_tl : ("-" : Str).cps.toList = [45] := by decide +kernel
end
section
theorem cutD_from (xs : List D) (k : Nat) : cutD xs (some (k : Int)) none = xs.drop k := by
  unfold cutD
  rw [HT.sIx_nat, HT.sIx_none]
  by_cases h : k ≤ xs.length
  · rw [Nat.min_eq_left h]
    exact List.take_of_length_le (by rw [List.length_drop]; omega)
  · rw [Nat.min_eq_right (by omega), Nat.sub_self, List.take_zero, List.drop_of_length_le (by omega)]
theorem cutD_to (xs : List D) (k : Nat) : cutD xs none (some (k : Int)) = xs.take k := by
  unfold cutD
  rw [HT.sIx_nat, HT.sIx_none, Nat.sub_zero, List.drop_zero]
  by_cases h : k ≤ xs.length
  · rw [Nat.min_eq_left h]
  · rw [Nat.min_eq_right (by omega), List.take_of_length_le (Nat.le_refl _), List.take_of_length_le (by omega)]
def txts (l : List Str) : List D := l.map .str
theorem txts_len (l : List Str) : (txts l).length = l.length := List.length_map ..
theorem toPys_txts : ∀ l : List Str, toPys (txts l) = l.map PyData.str
  | [] => rfl
  | s :: l => by
    show toPys (D.str s :: txts l) = _
    rw [toPys, toPys_txts l]
    simp only [toPy, List.map_cons]
theorem eqv_txts : ∀ l m : List Str, PyData.eqvAll (l.map PyData.str) (m.map PyData.str) = decide (l = m)
  | [], [] => rfl
  | [], _ :: _ => by simp [PyData.eqvAll]
  | _ :: _, [] => by simp [PyData.eqvAll]
  | s :: l, t :: m => by
    rw [List.map_cons, List.map_cons, PyData.eqvAll, eqv_txts l m, PyData.eqv]
    by_cases h : s = t
    · subst h; simp
    · simp [h]
theorem canLay_txts : ∀ l : List Str, (∀ s ∈ l, okS s = true) → PyData.canLayAll0 (l.map PyData.str) = true
  | [], _ => by simp [PyData.canLayAll0]
  | s :: l, h => by
    rw [List.map_cons, PyData.canLayAll0, canLay_txts l fun s hs => h s (List.mem_cons_of_mem _ hs), PyData.canLay0, Bool.and_true]
    exact h s (List.mem_cons_self ..)
theorem depth_txts : ∀ l : List Str, PyData.depthAll (l.map PyData.str) ≤ 1
  | [] => by simp [PyData.depthAll]
  | s :: l => by
    have := depth_txts l
    simp [PyData.depthAll, PyData.depth] at this ⊢
    try omega
theorem plains_txts : ∀ l : List Str, plains (txts l) = true
  | [] => by simp [txts, plains]
  | s :: l => by
    show plains (D.str s :: txts l) = true
    rw [plains, plains_txts l]
    simp [plain]
theorem cmp_txts {l : List Str} (h : ∀ s ∈ l, okS s = true) : cmpOk (.tup (txts l)) = true := by
  unfold cmpOk
  have hp : plain (.tup (txts l)) = true := by rw [plain]; exact plains_txts l
  rw [hp, Bool.true_and]
  have := depth_txts l
  refine shaped_flat ?_ ?_
  · rw [toPy, toPys_txts, PyData.canLay0]
    exact canLay_txts l h
  · rw [toPy, toPys_txts, PyData.depth]
    omega
theorem eqD_txts (l m : List Str) : eqD (.tup (txts l)) (.tup (txts m)) = decide (l = m) := by
  unfold eqD
  rw [toPy, toPy, toPys_txts, toPys_txts, PyData.eqv, eqv_txts]
theorem neO_txts {l m : List Str} (h1 : ∀ s ∈ l, okS s = true) (h2 : ∀ s ∈ m, okS s = true) : neO (.tup (txts l)) (.tup (txts m)) = .ok (.bl (!decide (l = m))) := by
  unfold neO
  rw [if_pos ⟨cmp_txts h1, cmp_txts h2⟩, eqD_txts]
def stepB (s : Str) : Bool := match s.cps.toList with
  | c :: r => (decide (c = 43) || decide (c = 45)) && namL r
  | [] => false
structure RunL (l : List Str) : Prop where
  ex : ∃ s r, l = s :: r ∧ nameB s = true ∧ ∀ t ∈ r, stepB t = true
theorem step_parts {s : Str} (h : stepB s = true) : ∃ c r, s.cps.toList = c :: r ∧ (c = 43 ∨ c = 45) ∧ namL r = true ∧ s.length ≤ 13 ∧ ∀ z ∈ s.cps.toList, z < 0x110000 := by
  unfold stepB at h
  cases q : s.cps.toList with
  | nil => rw [q] at h; cases h
  | cons c r =>
    rw [q] at h
    simp only [Bool.and_eq_true, Bool.or_eq_true, decide_eq_true_eq] at h
    have hn : nameB ⟨r.toArray⟩ = true := h.2
    obtain ⟨c', r', h1, h2, h3, h4⟩ := name_parts hn
    have h4' : r.length ≤ 12 := h4
    refine ⟨c, r, rfl, h.1, h.2, by rw [str_len, q, List.length_cons]; omega, fun z hz => ?_⟩
    rcases List.mem_cons.mp hz with rfl | hz
    · rcases h.1 with rfl | rfl <;> decide
    · exact (h3 z hz).elim (low_lt z) (dig_lt z)
theorem step_ok {s : Str} (h : stepB s = true) : okS s = true := by
  obtain ⟨_, _, _, _, _, _, h⟩ := step_parts h
  exact okS_of h
theorem RunL.ok {l : List Str} (h : RunL l) : ∀ s ∈ l, okS s = true := by
  obtain ⟨s, r, rfl, h1, h2⟩ := h.ex
  intro t ht
  rcases List.mem_cons.mp ht with rfl | ht
  · exact name_ok h1
  · exact step_ok (h2 t ht)
theorem step_of {g n : Str} {x : Nat} (hg : g.cps.toList = [x]) (hx : x = 43 ∨ x = 45) (hn : nameB n = true) : stepB (g ++ n) = true := by
  unfold stepB
  rw [str_app, hg]
  show ((decide (x = 43) || decide (x = 45)) && namL n.cps.toList) = true
  rw [show namL n.cps.toList = true from hn]
  rcases hx with rfl | rfl <;> rfl
theorem RunL.app {l m : List Str} (h : RunL l) (hm : ∀ s ∈ m, stepB s = true) : RunL (l ++ m) := by
  obtain ⟨s, r, rfl, h1, h2⟩ := h.ex
  exact ⟨s, r ++ m, rfl, h1, fun t ht => (List.mem_append.mp ht).elim (h2 t) (hm t)⟩
theorem RunL.tl {s : Str} {r : List Str} (h : RunL (s :: r)) : ∀ t ∈ r, stepB t = true := by
  obtain ⟨_, _, e, _, h2⟩ := h.ex
  cases e
  exact h2
theorem txts_app (l m : List Str) : txts (l ++ m) = txts l ++ txts m := List.map_append

end
section
theorem pick_txt (l : List Str) (hl : l ≠ []) (z : Int) : ∃ s, seqGet (txts l) (z % (l.length : Int)) = .ok (.str s) ∧ s ∈ l := by
  have h0 : 0 < l.length := List.length_pos_iff.mpr hl
  obtain ⟨d, h1, h2⟩ := pick_seq (txts l) l.length (by omega) (by rw [txts_len]; omega) z
  obtain ⟨s, hs, rfl⟩ := List.mem_map.mp h2
  exact ⟨s, h1, hs⟩
theorem raw_run_ex (ns : List Int) (k j most : Nat) (hk : k < 2 ^ 59) (hj : j < 1000) (hm : most ≤ 1000) (starts patches : List Str) (h1 : starts ≠ []) (h2 : patches ≠ []) (h3 : ∀ s ∈ starts, nameB s = true) (h4 : ∀ s ∈ patches, nameB s = true) :
    ∃ r : List Str, m__law_raw_run [.scr ns, .int (k : Int), .int (j : Int), .lst (txts starts), .lst (txts patches), .int (most : Int)] = .ok (.tup (txts r)) ∧ RunL r ∧ r.length ≤ most + 1 ∧ (∃ s ∈ starts, ∃ r', r = s :: r' ∧ ∀ t ∈ r', ∃ p ∈ patches, t = ("+" : Str) ++ p ∨ t = ("-" : Str) ++ p) := by
  have key : ∃ d, m__law_raw_run [.scr ns, .int (k : Int), .int (j : Int), .lst (txts starts), .lst (txts patches), .int (most : Int)] = .ok d ∧ ∃ r, d = .tup (txts r) ∧ RunL r ∧ r.length ≤ most + 1 ∧ (∃ s ∈ starts, ∃ r', r = s :: r' ∧ ∀ t ∈ r', ∃ p ∈ patches, t = ("+" : Str) ++ p ∨ t = ("-" : Str) ++ p) := by
    refine m_ex ?_
    unfold b__law_raw_run
    have d0 : m__law_draw [.scr ns, .int (k : Int), .int (j : Int)] = .ok (.int (dr ns k j)) := draw_nn ns k j (by omega) (by omega)
    have d1 : m__law_draw [.scr ns, .int (k : Int), .int ((j : Int) + 1)] = .ok (.int (dr ns k ((j : Int) + 1))) := (draw_all ns k _ (by omega) (by omega) (by omega) (by omega)).1
    obtain ⟨st, g0, hst⟩ := pick_txt starts h1 (dr ns k j)
    have p1 : (0 : Int) < (starts.length : Int) := by have := List.length_pos_iff.mpr h1; omega
    have p2 : (0 : Int) < (patches.length : Int) := by have := List.length_pos_iff.mpr h2; omega
    have t1 : ∀ d : D, tupD [d] = .ok (.tup [d]) := fun d => tup_ok (le_line (show 1 ≤ 1000000 by decide))
    have hmo : (0 : Int) < (most : Int) + 1 := by omega
    simp_arith [d0, txts_len, g0, mod_int p1, t1]
    have m0 := Int.emod_nonneg (dr ns k ((j : Int) + 1)) (show (most : Int) + 1 ≠ 0 by omega)
    have m1 := Int.emod_lt_of_pos (dr ns k ((j : Int) + 1)) hmo
    have hi : aI range1 (consA (op2 modD (aE m__law_draw (consA (getP 0) (consA (getP 1) (consA (op2 addD (getP 2) (cE (.int 1))) nilA)))) (op2 addD (getP 5) (cE (.int 1)))) nilA)
        [.sh (.scr ns), .sh (.int (k : Int)), .sh (.int (j : Int)), .sh (.lst (txts starts)), .sh (.lst (txts patches)), .sh (.int (most : Int)), .sh (.tup [.str st]), .no, .no] = .ok (rangeD 0 (dr ns k ((j : Int) + 1) % ((most : Int) + 1)).toNat) := by
      simp_arith [d1, mod_int hmo]
      exact range1_ok (by omega)
    generalize dr ns k ((j : Int) + 1) % ((most : Int) + 1) = n at m0 m1 hi
    obtain ⟨n, rfl⟩ := Int.eq_ofNat_of_zero_le m0
    rw [Int.toNat_natCast] at hi
    let I : Nat → Env → Prop := fun i env => ∃ (r : List Str) (x y : Sl), env = [.sh (.scr ns), .sh (.int (k : Int)), .sh (.int (j : Int)), .sh (.lst (txts starts)), .sh (.lst (txts patches)), .sh (.int (most : Int)), .sh (.tup (txts (st :: r))), x, y] ∧ r.length = i ∧ ∀ t ∈ r, stepB t = true ∧ ∃ p ∈ patches, t = ("+" : Str) ++ p ∨ t = ("-" : Str) ++ p
    refine Sat.rseq ?_
    with_reducible refine Sat.forS I (ds := rangeD 0 n) hi ?_ ?_ ?_
    · exact ⟨[], _, _, rfl, rfl, by simp⟩
    · rintro i d env hd ⟨r, x, y, rfl, hl, hall⟩
      obtain ⟨hi, rfl⟩ := rangeD_get hd
      refine ⟨_, rfl, ?_⟩
      have d2 : m__law_draw [.scr ns, .int (k : Int), .int ((j : Int) + 2 + (0 + (i : Int)))] = .ok (.int (dr ns k ((j : Int) + 2 + (0 + (i : Int))))) := (draw_all ns k _ (by omega) (by omega) (by omega) (by omega)).1
      generalize dr ns k ((j : Int) + 2 + (0 + (i : Int))) = z at d2
      obtain ⟨p, gp, hp⟩ := pick_txt patches h2 (z / 2)
      have q3 : lstD [D.str "+", .str "-"] = .ok (.lst [.str "+", .str "-"]) := lst_ok (le_line (show 2 ≤ 1000000 by decide))
      obtain ⟨g, x', gg, hg, hx, hgp⟩ : ∃ (g : Str) (x' : Nat), seqGet [D.str "+", D.str "-"] (z % 2) = .ok (.str g) ∧ g.cps.toList = [x'] ∧ (x' = 43 ∨ x' = 45) ∧ (g = "+" ∨ g = "-") := by
        have a0 := Int.emod_nonneg z (show (2 : Int) ≠ 0 by decide)
        have a1 := Int.emod_lt_of_pos z (show (0 : Int) < 2 by decide)
        have : z % 2 = 0 ∨ z % 2 = 1 := by omega
        rcases this with e | e
        · rw [e]; exact ⟨"+", 43, @seqGet_of _ 0 _ rfl, plus_tl, .inl rfl, .inl rfl⟩
        · rw [e]; exact ⟨"-", 45, @seqGet_of _ 1 _ rfl, minus_tl, .inr rfl, .inr rfl⟩
      obtain ⟨_, _, _, _, _, hpl⟩ := name_parts (h4 p hp)
      have gl : g.length = 1 := by rw [str_len, hg]; rfl
      have a1 : addD (.str g) (.str p) = .ok (.str (g ++ p)) := add_str (le_line (by omega))
      have a2 : addD (.tup (txts (st :: r))) (.tup [.str (g ++ p)]) = .ok (.tup (txts (st :: r) ++ [.str (g ++ p)])) := if_pos (by rw [txts_len, List.length_cons]; exact le_line (by simp only [List.length_cons, List.length_nil]; omega))
      simp_arith [Int.reduceLT, and_self, d2, q3, gg, txts_len, mod_int p2, gp, a1, t1, a2]
      refine ⟨r ++ [g ++ p], _, _, by rw [show st :: (r ++ [g ++ p]) = (st :: r) ++ [g ++ p] from rfl, txts_app]; rfl, by rw [List.length_append, hl]; rfl, fun t ht => ?_⟩
      rcases List.mem_append.mp ht with h | h
      · exact hall t h
      · rw [List.mem_singleton.mp h]
        exact ⟨step_of hg hx (h4 p hp), p, hp, by rcases hgp with rfl | rfl <;> simp⟩
    · rintro env ⟨r, x, y, rfl, hl, hall⟩
      rw [rangeD_len] at hl
      simp_arith []
      exact ⟨st :: r, rfl, ⟨st, r, rfl, h3 st hst, fun t ht => (hall t ht).1⟩, by rw [List.length_cons]; omega, st, hst, r, rfl, fun t ht => (hall t ht).2⟩
  obtain ⟨d, h, r, rfl, h'⟩ := key
  exact ⟨r, h, h'⟩

end
section
theorem law_is_run_txts (l : List Str) (hl : l ≠ []) : m__law_is_run [.tup (txts l)] = .ok (.bl true) := by
  refine m_ok ?_
  unfold b__law_is_run
  have it : isT "tuple" (.tup (txts l)) = .ok (.bl true) := rfl
  have h0 : decide (((txts l).length : Int) = 0) = false := decide_eq_false (by
    have := List.length_pos_iff.mpr hl
    rw [txts_len]; omega)
  simp_arith [it, h0]
  refine Sat.rseq (Sat.forS0 (fun env => ∃ x, env = [.sh (.tup (txts l)), x]) (ds := txts l) rfl ⟨_, rfl⟩ ?_ ?_)
  · rintro d hd env ⟨x, rfl⟩
    obtain ⟨s, _, rfl⟩ := List.mem_map.mp hd
    refine ⟨_, rfl, ?_⟩
    have is : isT "str" (.str s) = .ok (.bl true) := rfl
    simp_arith [is]
    exact ⟨_, rfl⟩
  · rintro env ⟨x, rfl⟩
    simp_arith []

end
section
theorem many_ex (ns : List Int) (j : Nat) (hj : j < 1000) : ∃ n : Nat, m__law_many [.scr ns, .int (j : Int)] = .ok (.int (n : Int)) ∧ 1 ≤ n ∧ n ≤ 6 := by
  have key : ∃ d, m__law_many [.scr ns, .int (j : Int)] = .ok d ∧ ∃ n : Nat, d = .int (n : Int) ∧ 1 ≤ n ∧ n ≤ 6 := by
    refine m_ex ?_
    unfold b__law_many
    have d0 : m__law_draw [.scr ns, .int 0, .int (j : Int)] = .ok (.int (dr ns 0 j)) := draw_nn ns 0 j (by decide) (by omega)
    obtain ⟨d, h1, h2⟩ := pick_seq [D.int 1, .int 2, .int 3, .int 1, .int 2, .int 3, .int 5, .int 6] 8 (by decide) (by decide) (dr ns 0 j)
    have l8 : lstD [D.int 1, .int 2, .int 3, .int 1, .int 2, .int 3, .int 5, .int 6] = .ok (.lst [D.int 1, .int 2, .int 3, .int 1, .int 2, .int 3, .int 5, .int 6]) := lst_ok (le_line (show 8 ≤ 1000000 by decide))
    simp_arith [Int.reduceLT, d0, l8, h1]
    simp only [List.mem_cons, List.not_mem_nil, or_false] at h2
    rcases h2 with rfl | rfl | rfl | rfl | rfl | rfl | rfl | rfl
    · exact ⟨1, rfl, by decide, by decide⟩
    · exact ⟨2, rfl, by decide, by decide⟩
    · exact ⟨3, rfl, by decide, by decide⟩
    · exact ⟨1, rfl, by decide, by decide⟩
    · exact ⟨2, rfl, by decide, by decide⟩
    · exact ⟨3, rfl, by decide, by decide⟩
    · exact ⟨5, rfl, by decide, by decide⟩
    · exact ⟨6, rfl, by decide, by decide⟩
  obtain ⟨d, h, n, rfl, h'⟩ := key
  exact ⟨n, h, h'⟩

end
section
theorem consGG_nx {χ ρ : Env → List D → GRes} {env e : Env} {out o : List D} (h : χ env out = .nx e o) : consGG χ ρ env out = ρ e o := by
  unfold consGG
  rw [h]
theorem forG_at {γ : D → Env → Option Env} {ι : Env → Res (List D)} {χ : Env → List D → GRes} {env : Env} {out ds : List D} (h : ι env = .ok ds) : forG γ ι χ env out = forGL γ χ ds env out := by
  unfold forG
  rw [h]

end
section
def preD (l : List Str) (ks : List Nat) : List D := ks.map fun k => .tup (txts (l.take k))
theorem pre_loop (l : List Str) : ∀ (ks : List Nat) (x : Sl) (out : List D), out.length + ks.length ≤ 10000 → ∃ x', forGL (gnG 1) (consGG (yldG (slE (getP 0) noO (someO (getP 1)))) nilGG) (ks.map fun (k : Nat) => D.int (k : Int)) [.sh (.tup (txts l)), x] out = .nx [.sh (.tup (txts l)), x'] (out ++ preD l ks)
  | [], x, out, _ => ⟨x, by
    show GRes.nx _ out = _
    rw [show preD l [] = [] from rfl, List.append_nil]⟩
  | k :: ks, x, out, h => by
    rw [List.length_cons] at h
    have hs : slE (getP 0) noO (someO (getP 1)) [.sh (.tup (txts l)), .sh (.int (k : Int))] = .ok (.tup (txts (l.take k))) := by
      simp_arith [cutD_to]
      rw [show (txts l).take k = txts (l.take k) from by unfold txts; rw [List.map_take]]
    have hy : consGG (yldG (slE (getP 0) noO (someO (getP 1)))) nilGG [.sh (.tup (txts l)), .sh (.int (k : Int))] out = .nx [.sh (.tup (txts l)), .sh (.int (k : Int))] (out ++ [.tup (txts (l.take k))]) := by
      refine consGG_nx (ρ := nilGG) ?_
      unfold yldG
      rw [hs]
      show (if out.length < sizeLine then GRes.nx _ (out ++ [D.tup (txts (l.take k))]) else .bad) = _
      rw [if_pos (Nat.lt_of_lt_of_le (show out.length < 10000 by omega) (le_line (by decide)))]
    obtain ⟨x', e⟩ := pre_loop l ks (.sh (.int (k : Int))) (out ++ [.tup (txts (l.take k))]) (by rw [List.length_append, List.length_singleton]; omega)
    refine ⟨x', ?_⟩
    rw [List.map_cons]
    unfold forGL
    simp only [gnG_eq, sz_, ss_]
    rw [hy]
    show forGL _ _ _ _ _ = _
    rw [e, List.append_assoc]
    rfl
theorem prefixes_ok (l : List Str) (h : l.length ≤ 1000) : m_prefixes [.tup (txts l)] = .ok (.lst (preD l ((List.range l.length).map (· + 1)))) := by
  unfold m_prefixes genM b_prefixes
  have hr : aI range2 (consA (cE (.int 1)) (consA (op2 addD (aE lenF (consA (getP 0) nilA)) (cE (.int 1))) nilA)) (env0 2 [.tup (txts l)]) = .ok (((List.range l.length).map (· + 1)).map fun (k : Nat) => D.int (k : Int)) := by
    simp_arith [txts_len]
    rw [show (1 : Int) = ((1 : Nat) : Int) from rfl, ← Int.natCast_add, range2_nat (by decide) (by omega)]
    unfold rangeD
    rw [List.map_map, Nat.add_sub_cancel]
    refine congrArg Res.ok (List.map_congr_left fun i _ => ?_)
    show D.int (((1 : Nat) : Int) + (i : Int)) = D.int ((i + 1 : Nat) : Int)
    exact congrArg D.int (by omega)
  obtain ⟨x', e⟩ := pre_loop l ((List.range l.length).map (· + 1)) .no [] (by rw [List.length_map, List.length_range]; simp; omega)
  rw [consGG_nx ((forG_at hr).trans e)]
  rfl

end
section
theorem pre_len (l : List Str) : (preD l ((List.range l.length).map (· + 1))).length = l.length := by
  unfold preD
  rw [List.length_map, List.length_map, List.length_range]
theorem pre_get (l : List Str) {i : Nat} (h : i < l.length) : seqGet (preD l ((List.range l.length).map (· + 1))) (i : Int) = .ok (.tup (txts (l.take (i + 1)))) := by
  refine seqGet_of ?_
  unfold preD
  rw [List.getElem?_map, List.getElem?_map, List.getElem?_range h]
  rfl
theorem asked06_ok {l : List Str} (hl : RunL l) (h : l.length ≤ 1000) : m__law_asked [.tup (txts l)] = .ok (.bl true) := by
  refine m_ok ?_
  unfold b__law_asked
  have e1 : geE (aE m_prefixes (consA (getP 0) nilA)) (env0 4 [.tup (txts l)]) = .ok (.lst (preD l ((List.range l.length).map (· + 1)))) := by
    unfold geE
    simp_arith [prefixes_ok l h]
    rfl
  have hn0 : neO (.int ((l.length : Nat) : Int)) (.int ((l.length : Nat) : Int)) = .ok (.bl false) := by
    rw [neO_int]
    simp
  rw [seq_eq, setS_eq, e1]
  simp_arith [pre_len, txts_len, decide_true, Bool.not_true]
  refine Sat.rseq ?_
  let I : Nat → Env → Prop := fun i env => ∃ x y, env = [.sh (.tup (txts l)), .sh (.lst (preD l ((List.range l.length).map (· + 1)))), x, y]
  with_reducible refine Sat.forS I (ds := rangeD 0 l.length) ?_ ?_ ?_ ?_
  · simp_arith [txts_len]
    exact range1_nat (by omega)
  · exact ⟨_, _, rfl⟩
  · rintro i d env hd ⟨x, y, rfl⟩
    obtain ⟨hi, rfl⟩ := rangeD_get hd
    refine ⟨_, rfl, ?_⟩
    have g1 := pre_get l hi
    have e0 : (0 : Int) + (i : Int) = (i : Int) := by omega
    have hne : l.take (i + 1) ≠ [] := List.length_pos_iff.mp (by rw [List.length_take]; omega)
    have hc : cutD (txts l) none (some ((i : Int) + 1)) = txts (l.take (i + 1)) := by
      rw [show (i : Int) + 1 = ((i + 1 : Nat) : Int) by omega, cutD_to]
      unfold txts
      rw [List.map_take]
    have k1 : ∀ s ∈ l.take (i + 1), okS s = true := fun s hs => hl.ok s (List.mem_of_mem_take hs)
    simp_arith [e0, g1, law_is_run_txts _ hne, hc, neO_txts k1 k1, decide_true, Bool.not_true]
    exact ⟨_, _, rfl⟩
  · rintro env ⟨x, y, rfl⟩
    simp_arith []

end
section
theorem m_law_ok : ∀ ns : List Int, ns.length ≤ 63 → (∀ z ∈ ns, Builtin.Int.intBits z ≤ 1048576) → m_law [.scr ns] = .ok (.bl true) := by
  intro ns _ _
  refine m_ok ?_
  unfold b_law
  obtain ⟨np, hnp, hnp2, hnp3⟩ := many_ex ns 0 (by decide)
  have hnp' : m__law_many [.scr ns, .int 0] = .ok (.int (np : Int)) := hnp
  obtain ⟨ps, hp1, hp2, hp3⟩ := names_ex ns 1 np (by decide) (by omega)
  obtain ⟨ss, hs1, hs2, hs3⟩ := names_ex ns 2 2 (by decide) (by decide)
  have hp1' : m__law_names [.scr ns, .int 1, .int (np : Int)] = .ok (.lst (txts ps)) := hp1
  have hs1' : m__law_names [.scr ns, .int 2, .int 2] = .ok (.lst (txts ss)) := hs1
  obtain ⟨r0, hr0, hr1, hr2, _⟩ := raw_run_ex ns 3 0 9 (by decide) (by decide) (by decide) ss ps (by intro h; rw [h] at hs2; cases hs2) (by intro h; rw [h] at hp2; simp at hp2; omega) hs3 hp3
  have hr0' : m__law_raw_run [.scr ns, .int 3, .int 0, .lst (txts ss), .lst (txts ps), .int 9] = .ok (.tup (txts r0)) := hr0
  have d01 : m__law_draw [.scr ns, .int 0, .int 1] = .ok (.int (dr ns 0 1)) := draw_nn ns 0 1 (by decide) (by decide)
  have m0 := Int.emod_nonneg (dr ns 0 1) (show (6 : Int) ≠ 0 by decide)
  have m1 := Int.emod_lt_of_pos (dr ns 0 1) (show (0 : Int) < 6 by decide)
  obtain ⟨s, r, rfl, h1, h2⟩ := hr1.ex
  rw [List.length_cons] at hr2
  have hm : mulD (.tup (txts r)) (.int (dr ns 0 1 % 6)) = .ok (.tup (txts (List.replicate (dr ns 0 1 % 6).toNat r).flatten)) := by
    have e : txts (List.replicate (dr ns 0 1 % 6).toNat r).flatten = (List.replicate (dr ns 0 1 % 6).toNat (txts r)).flatten := by
      unfold txts
      rw [List.map_flatten, List.map_replicate]
    rw [e]
    exact if_pos ⟨by omega, by omega, by rw [txts_len]; omega⟩
  have hlr : ((List.replicate (dr ns 0 1 % 6).toNat r).flatten).length ≤ 6 * 9 := by
    rw [rep_len]
    exact Nat.mul_le_mul (by omega) (by omega)
  generalize hR : (List.replicate (dr ns 0 1 % 6).toNat r).flatten = R at hm hlr
  have hRm : ∀ t ∈ R, stepB t = true := fun t ht => by
    rw [← hR] at ht
    obtain ⟨l', h3, h4⟩ := List.mem_flatten.mp ht
    rw [(List.mem_replicate.mp h3).2] at h4
    exact h2 t h4
  have ha : addD (.tup (txts (s :: r))) (.tup (txts R)) = .ok (.tup (txts ((s :: r) ++ R))) := by
    rw [txts_app]
    exact if_pos (by rw [txts_len, txts_len, List.length_cons]; exact le_line (by omega))
  have hsl : cutD (txts (s :: r)) (some 1) none = txts r := by
    rw [show (1 : Int) = ((1 : Nat) : Int) from rfl, cutD_from]
    rfl
  have hrun := hr1.app hRm
  have hlen : ((s :: r) ++ R).length ≤ 1000 := by
    rw [List.length_append, List.length_cons]
    omega
  have a1 := asked06_ok hrun hlen
  have hone : RunL [s] := by
    have q := hr1
    have e : cutD (txts ((s :: r) ++ R)) none (some 1) = txts [s] := by
      rw [show (1 : Int) = ((1 : Nat) : Int) from rfl, cutD_to]
      rfl
    exact ⟨s, [], rfl, h1, fun t ht => by cases ht⟩
  have a2 := asked06_ok hone (by simp)
  have hcut : cutD (txts ((s :: r) ++ R)) none (some 1) = txts [s] := by
    rw [show (1 : Int) = ((1 : Nat) : Int) from rfl, cutD_to]
    rfl
  rw [List.cons_append] at ha a1 hcut
  simp_arith [Int.reduceLT, hnp', hp1', hs1', hr0', d01, mod_int (show (0 : Int) < 6 by decide), hsl, hm, ha, a1, hcut, a2]

end
end VL
namespace VL
open PySem L2
structure Blt (mg : Str → Option Value) : Prop where
  int : mg "int" = none
  len : mg "len" = none
  range : mg "range" = none
  isinstance : mg "isinstance" = none
  tuple : mg "tuple" = none
  str : mg "str" = none
section
variable {P : Program} {w : World} {K : PySem.W.Frag} {mg : Str → Option Value} {base : Heap}
abbrev N__law_draw : List Str := ["_law_script", "_law_k", "_law_j", "_law_cell", "_law_first", "_law_second", "_law_rest", "_law_turn"]
theorem sc__law_draw : FnScope N__law_draw ["_law_script", "_law_k", "_law_j"] (defScope s__law_draw) := ⟨rfl, rfl, rfl, by decide +kernel, rfl, by decide +kernel, by decide +kernel⟩
set_option maxHeartbeats 4000000 in
theorem v__law_draw (B : Blt mg) (R : Raw K mg "_law_draw" s__law_draw ["_law_script", "_law_k", "_law_j"]) : DefOk P w K mg base "_law_draw" 1 ["_law_script", "_law_k", "_law_j"] 3 m__law_draw := by
  have nd := sc__law_draw.nd
  refine def_v N__law_draw b__law_draw R sc__law_draw rfl rfl (fun f cdv A outer s H E hr tk po => ?_)
  exact (vb_cons (vs_if (vt_cmp (fla := true) (flb := true) (op_eqD hr.units) (nomark _) of_eq (ve_v 0) (ve_lst va_nil)) (vb_one (vs_ret ve_int)) vb_nil)
      (vb_cons (vs_set 3 nd (ve_ty (fla := true) call_int1 cf_int B.int (by decide +kernel) (va_cons (ve_ix (flb := true) (ru1 hr) (ve_v 0) (ve_op (fla := true) (flb := true) op_mod of_mod (ve_ty (fla := true) call_int1 cf_int B.int (by decide +kernel) (va_cons (ve_v 1) va_nil)) (ve_bi (fla := true) call_len cf_len B.len PySem.boot_len (va_cons (ve_v 0) va_nil)))) va_nil)))
      (vb_cons (vs_if (vt_w (vw_and (vt_cmp (fla := true) (flb := true) op_lt (nomark _) of_lt (ve_v 1) (ve_bi (fla := true) call_len cf_len B.len PySem.boot_len (va_cons (ve_v 0) va_nil))) (vw_and1 (vt_cmp (fla := true) (flb := true) op_ge (nomark _) of_ge (ve_v 3) (ve_op (fla := true) (flb := true) op_pow of_pow ve_int ve_int))))) (vb_cons (vs_set 6 nd (ve_v 3))
      (vb_cons (vs_for po rfl (vi_range1 (fl := true) B.range (va_cons (ve_v 2) va_nil)) (vg_n 7 nd) (vb_one (vs_set 6 nd (ve_op (fla := true) (flb := true) op_fdiv of_fdiv (ve_v 6) ve_int))))
      (vb_one (vs_if (vt_cmp (fla := true) (flb := true) op_gt (nomark _) of_gt (ve_v 6) ve_int) (vb_one (vs_ret (ve_op (fla := true) (flb := true) op_mod of_mod (ve_ty (fla := true) call_int1 cf_int B.int (by decide +kernel) (va_cons (ve_v 6) va_nil)) ve_int))) vb_nil)))) vb_nil)
      (vb_cons (vs_set 4 nd (ve_op (fla := true) (flb := true) op_mod of_mod (ve_ty (fla := true) call_int1 cf_int B.int (by decide +kernel) (va_cons (ve_op op_addA of_add (ve_op op_addA of_add (ve_op op_addA of_add (ve_op (flb := true) op_mulA of_mul (ve_op (fla := true) (flb := true) op_mod of_mod (ve_ty (fla := true) call_int1 cf_int B.int (by decide +kernel) (va_cons (ve_v 3) va_nil)) ve_int) ve_int) (ve_op (flb := true) op_mulA of_mul (ve_v 1) ve_int)) (ve_op (flb := true) op_mulA of_mul (ve_v 2) ve_int)) ve_int) va_nil)) ve_int))
      (vb_cons (vs_set 5 nd (ve_op (fla := true) (flb := true) op_mod of_mod (ve_ty (fla := true) call_int1 cf_int B.int (by decide +kernel) (va_cons (ve_op op_addA of_add (ve_op op_addA of_add (ve_op op_addA of_add (ve_op op_addA of_add (ve_op (flb := true) op_mulA of_mul (ve_op (fla := true) (flb := true) op_mod of_mod (ve_ty (fla := true) call_int1 cf_int B.int (by decide +kernel) (va_cons (ve_v 4) va_nil)) ve_int) ve_int) (ve_op (flb := true) op_mulA of_mul (ve_op (fla := true) (flb := true) op_fdiv of_fdiv (ve_v 4) ve_int) ve_int)) (ve_op (flb := true) op_mulA of_mul (ve_v 2) ve_int)) (ve_op (flb := true) op_mulA of_mul (ve_v 1) ve_int)) ve_int) va_nil)) ve_int))
      (vb_one (vs_ret (ve_op (fla := true) (flb := true) op_mod of_mod (ve_ty (fla := true) call_int1 cf_int B.int (by decide +kernel) (va_cons (ve_op (fla := true) (flb := true) op_fdiv of_fdiv (ve_v 5) ve_int) va_nil)) ve_int))))))))
abbrev N__law_names : List Str := ["_law_script", "_law_k", "_law_many_here", "_law_letters", "_law_mode", "_law_base", "_law_size", "_law_place", "_law_names_here", "_law_at", "_law_shift", "_law_name"]
theorem sc__law_names : FnScope N__law_names ["_law_script", "_law_k", "_law_many_here"] (defScope s__law_names) := ⟨rfl, rfl, rfl, by decide +kernel, rfl, by decide +kernel, by decide +kernel⟩
set_option maxHeartbeats 4000000 in
theorem v__law_names (B : Blt mg) (R : Raw K mg "_law_names" s__law_names ["_law_script", "_law_k", "_law_many_here"]) (d__law_draw : DefOk P w K mg base "_law_draw" 1 ["_law_script", "_law_k", "_law_j"] 3 m__law_draw) : DefOk P w K mg base "_law_names" 2 ["_law_script", "_law_k", "_law_many_here"] 3 m__law_names := by
  have nd := sc__law_names.nd
  refine def_v N__law_names b__law_names R sc__law_names rfl rfl (fun f cdv A outer s H E hr tk po => ?_)
  exact (vb_cons (vs_set 3 nd ve_str)
      (vb_cons (vs_set 4 nd (ve_op (fla := true) (flb := true) op_mod of_mod (ve_def d__law_draw tk (hr.mono (by decide)) (va_cons (ve_v 0) (va_cons (ve_v 1) (va_cons ve_int va_nil))) rfl (la_cons (la_cons (la_cons la_nil)))) ve_int))
      (vb_cons (vs_set 5 nd (ve_op op_addA of_add ve_str (ve_join (fla := true) (flb := true) ve_str (ve_new (vf_lc (own := [("_law_at", 9)]) rfl nd (vi_range1 (fl := true) B.range (va_cons ve_int va_nil)) (blkOk_by (N := N__law_names) (sc := defScope s__law_names) (by decide +kernel)) (fun _ _ _ _ _ => (vgc_n 9 (by decide) nd)) (fun _ _ _ _ _ => vts_nil) (fun _ _ _ _ _ => (ve_ix (flb := true) (ru1 hr) (ve_v 3) (ve_op (fla := true) (flb := true) op_mod of_mod (ve_def d__law_draw tkW0 (hr.mono (by decide)) (va_cons (ve_v 0) (va_cons (ve_v 1) (va_cons (ve_op op_addA of_add ve_int (ve_v 9)) va_nil))) rfl (la_cons (la_cons (la_cons la_nil)))) ve_int))))))))
      (vb_cons (vs_set 6 nd (ve_op op_addA of_add ve_int (ve_op (fla := true) (flb := true) op_mod of_mod (ve_def d__law_draw tk (hr.mono (by decide)) (va_cons (ve_v 0) (va_cons (ve_v 1) (va_cons ve_int va_nil))) rfl (la_cons (la_cons (la_cons la_nil)))) ve_int)))
      (vb_cons (vs_set 7 nd (ve_op (fla := true) (flb := true) op_mod of_mod (ve_def d__law_draw tk (hr.mono (by decide)) (va_cons (ve_v 0) (va_cons (ve_v 1) (va_cons ve_int va_nil))) rfl (la_cons (la_cons (la_cons la_nil)))) (ve_v 6)))
      (vb_cons (vs_own 8 nd (vf_lst va_nil))
      (vb_cons (vs_for po rfl (vi_range1 (fl := true) B.range (va_cons (ve_v 2) va_nil)) (vg_n 9 nd) (vb_cons (vs_set 10 nd (ve_def d__law_draw tk (hr.mono (by decide)) (va_cons (ve_v 0) (va_cons (ve_v 1) (va_cons (ve_op op_addA of_add ve_int (ve_v 9)) va_nil))) rfl (la_cons (la_cons (la_cons la_nil)))))
      (vb_cons (vs_set 11 nd (ve_op op_addA of_add (ve_ix (flb := true) (ru1 hr) (ve_v 3) (ve_op (fla := true) (flb := true) op_mod of_mod (ve_v 10) ve_int)) (ve_sl (ve_v 5) (vo_some (fl := true) ve_int) (vo_some (fl := true) (ve_op op_addA of_add ve_int (ve_op (fla := true) (flb := true) op_mod of_mod (ve_op (fla := true) (flb := true) op_fdiv of_fdiv (ve_v 10) ve_int) ve_int))))))
      (vb_cons (vs_if (vt_cmp (fla := true) (flb := true) (op_eqD hr.units) (nomark _) of_eq (ve_v 4) ve_int) (vb_one (vs_set 11 nd (ve_ix (flb := true) (ru1 hr) ve_str (ve_v 9)))) vb_nil)
      (vb_cons (vs_if (vt_cmp (fla := true) (flb := true) (op_eqD hr.units) (nomark _) of_eq (ve_v 4) ve_int) (vb_one (vs_set 11 nd (ve_op op_addA of_add (ve_op op_addA of_add (ve_sl (ve_v 5) vo_none (vo_some (fl := true) (ve_v 7))) (ve_ix (flb := true) (ru1 hr) (ve_v 3) (ve_op (fla := true) (flb := true) op_mod of_mod (ve_ty (fla := true) call_int1 cf_int B.int (by decide +kernel) (va_cons (ve_op op_addA of_add (ve_v 10) (ve_v 9)) va_nil)) ve_int))) (ve_sl (ve_v 5) (vo_some (fl := true) (ve_op op_addA of_add (ve_v 7) ve_int)) (vo_some (fl := true) (ve_v 6)))))) vb_nil)
      (vb_one (vs_app 8 (ve_v 11))))))))
      (vb_one (vs_give 8 (vs_ret (ve_v 8)))))))))))
abbrev N__law_raw_run : List Str := ["_law_script", "_law_k", "_law_j", "_law_starts", "_law_patches", "_law_most", "_law_run", "_law_turn", "_law_draw_here"]
theorem sc__law_raw_run : FnScope N__law_raw_run ["_law_script", "_law_k", "_law_j", "_law_starts", "_law_patches", "_law_most"] (defScope s__law_raw_run) := ⟨rfl, rfl, rfl, by decide +kernel, rfl, by decide +kernel, by decide +kernel⟩
set_option maxHeartbeats 4000000 in
theorem v__law_raw_run (B : Blt mg) (R : Raw K mg "_law_raw_run" s__law_raw_run ["_law_script", "_law_k", "_law_j", "_law_starts", "_law_patches", "_law_most"]) (d__law_draw : DefOk P w K mg base "_law_draw" 1 ["_law_script", "_law_k", "_law_j"] 3 m__law_draw) : DefOk P w K mg base "_law_raw_run" 2 ["_law_script", "_law_k", "_law_j", "_law_starts", "_law_patches", "_law_most"] 6 m__law_raw_run := by
  have nd := sc__law_raw_run.nd
  refine def_v N__law_raw_run b__law_raw_run R sc__law_raw_run rfl rfl (fun f cdv A outer s H E hr tk po => ?_)
  exact (vb_cons (vs_set 6 nd (ve_tup (va_cons (ve_ix (flb := true) (ru1 hr) (ve_v 3) (ve_op (fla := true) (flb := true) op_mod of_mod (ve_def d__law_draw tk (hr.mono (by decide)) (va_cons (ve_v 0) (va_cons (ve_v 1) (va_cons (ve_v 2) va_nil))) rfl (la_cons (la_cons (la_cons la_nil)))) (ve_bi (fla := true) call_len cf_len B.len PySem.boot_len (va_cons (ve_v 3) va_nil)))) va_nil)))
      (vb_cons (vs_for po rfl (vi_range1 (fl := true) B.range (va_cons (ve_op (fla := true) (flb := true) op_mod of_mod (ve_def d__law_draw tk (hr.mono (by decide)) (va_cons (ve_v 0) (va_cons (ve_v 1) (va_cons (ve_op op_addA of_add (ve_v 2) ve_int) va_nil))) rfl (la_cons (la_cons (la_cons la_nil)))) (ve_op op_addA of_add (ve_v 5) ve_int)) va_nil)) (vg_n 7 nd) (vb_cons (vs_set 8 nd (ve_def d__law_draw tk (hr.mono (by decide)) (va_cons (ve_v 0) (va_cons (ve_v 1) (va_cons (ve_op op_addA of_add (ve_op op_addA of_add (ve_v 2) ve_int) (ve_v 7)) va_nil))) rfl (la_cons (la_cons (la_cons la_nil)))))
      (vb_one (vs_set 6 nd (ve_op op_addA of_add (ve_v 6) (ve_tup (va_cons (ve_op op_addA of_add (ve_ix (flb := true) (ru1 hr) (ve_lst (va_cons ve_str (va_cons ve_str va_nil))) (ve_op (fla := true) (flb := true) op_mod of_mod (ve_v 8) ve_int)) (ve_ix (flb := true) (ru1 hr) (ve_v 4) (ve_op (fla := true) (flb := true) op_mod of_mod (ve_op (fla := true) (flb := true) op_fdiv of_fdiv (ve_v 8) ve_int) (ve_bi (fla := true) call_len cf_len B.len PySem.boot_len (va_cons (ve_v 4) va_nil))))) va_nil)))))))
      (vb_one (vs_ret (ve_v 6)))))
abbrev N__law_many : List Str := ["_law_script", "_law_j"]
theorem sc__law_many : FnScope N__law_many ["_law_script", "_law_j"] (defScope s__law_many) := ⟨rfl, rfl, rfl, by decide +kernel, rfl, by decide +kernel, by decide +kernel⟩
set_option maxHeartbeats 4000000 in
theorem v__law_many (B : Blt mg) (R : Raw K mg "_law_many" s__law_many ["_law_script", "_law_j"]) (d__law_draw : DefOk P w K mg base "_law_draw" 1 ["_law_script", "_law_k", "_law_j"] 3 m__law_draw) : DefOk P w K mg base "_law_many" 2 ["_law_script", "_law_j"] 2 m__law_many := by
  have nd := sc__law_many.nd
  refine def_v N__law_many b__law_many R sc__law_many rfl rfl (fun f cdv A outer s H E hr tk po => ?_)
  exact (vb_one (vs_ret (ve_ix (flb := true) (ru1 hr) (ve_lst (va_cons ve_int (va_cons ve_int (va_cons ve_int (va_cons ve_int (va_cons ve_int (va_cons ve_int (va_cons ve_int (va_cons ve_int va_nil))))))))) (ve_op (fla := true) (flb := true) op_mod of_mod (ve_def d__law_draw tk (hr.mono (by decide)) (va_cons (ve_v 0) (va_cons ve_int (va_cons (ve_v 1) va_nil))) rfl (la_cons (la_cons (la_cons la_nil)))) ve_int))))
abbrev N_prefixes : List Str := ["run", "size"]
theorem sc_prefixes : GScope N_prefixes ["run"] (defScope s_prefixes) := ⟨rfl, rfl, rfl, by decide +kernel, rfl, by decide +kernel, by decide +kernel⟩
set_option maxHeartbeats 4000000 in
theorem v_prefixes (B : Blt mg) (R : Raw K mg "prefixes" s_prefixes ["run"]) : DefOkY P w K mg base "prefixes" 1 ["run"] 1 m_prefixes := by
  have nd := sc_prefixes.nd
  refine def_y N_prefixes b_prefixes R sc_prefixes (by decide +kernel) rfl rfl (fun f cd A outer s H pn hr => ?_)
  exact (vbg_cons (vg_for rfl (vi_range2 (fl := true) B.range (va_cons ve_int (va_cons (ve_op op_addA of_add (ve_bi (fla := true) call_len cf_len B.len PySem.boot_len (va_cons (ve_v 0) va_nil)) ve_int) va_nil))) (vg_n 1 nd) (vbg_cons (vg_yield (ve_sl (ve_v 0) vo_none (vo_some (fl := true) (ve_v 1))))
      vbg_nil))
      vbg_nil)
abbrev N__law_is_run : List Str := ["_law_value", "_law_item"]
theorem sc__law_is_run : FnScope N__law_is_run ["_law_value"] (defScope s__law_is_run) := ⟨rfl, rfl, rfl, by decide +kernel, rfl, by decide +kernel, by decide +kernel⟩
set_option maxHeartbeats 4000000 in
theorem v__law_is_run (B : Blt mg) (R : Raw K mg "_law_is_run" s__law_is_run ["_law_value"]) : DefOk P w K mg base "_law_is_run" 1 ["_law_value"] 1 m__law_is_run := by
  have nd := sc__law_is_run.nd
  refine def_v N__law_is_run b__law_is_run R sc__law_is_run rfl rfl (fun f cdv A outer s H E hr tk po => ?_)
  exact (vb_cons (vs_if (vt_w (vw_or (vt_not (vt_val (fl := true) (ve_isT (T := "tuple") (fla := true) (ve_v 0) B.isinstance B.tuple (by decide +kernel)))) (vw_or1 (vt_cmp (fla := true) (flb := true) (op_eqD hr.units) (nomark _) of_eq (ve_bi (fla := true) call_len cf_len B.len PySem.boot_len (va_cons (ve_v 0) va_nil)) ve_int)))) (vb_one (vs_ret ve_bl)) vb_nil)
      (vb_cons (vs_for po rfl (vi_seq (ve_v 0)) (vg_n 1 nd) (vb_one (vs_if (vt_not (vt_val (fl := true) (ve_isT (T := "str") (fla := true) (ve_v 1) B.isinstance B.str (by decide +kernel)))) (vb_one (vs_ret ve_bl)) vb_nil)))
      (vb_one (vs_ret ve_bl))))
abbrev N__law_asked : List Str := ["_law_run", "_law_told", "_law_at", "_law_prefix"]
theorem sc__law_asked : FnScope N__law_asked ["_law_run"] (defScope s__law_asked) := ⟨rfl, rfl, rfl, by decide +kernel, rfl, by decide +kernel, by decide +kernel⟩
set_option maxHeartbeats 4000000 in
theorem v__law_asked (B : Blt mg) (R : Raw K mg "_law_asked" s__law_asked ["_law_run"]) (d_prefixes : DefOkY P w K mg base "prefixes" 1 ["run"] 1 m_prefixes) (d__law_is_run : DefOk P w K mg base "_law_is_run" 1 ["_law_value"] 1 m__law_is_run) : DefOk P w K mg base "_law_asked" 5 ["_law_run"] 1 m__law_asked := by
  have nd := sc__law_asked.nd
  refine def_v N__law_asked b__law_asked R sc__law_asked rfl rfl (fun f cdv A outer s H E hr tk po => ?_)
  exact (vb_cons (vs_gcSet 1 (own := [("_law_prefix", 3)]) nd (vy_def d_prefixes (hr.mono (by decide)) (va_cons (ve_v 0) va_nil) rfl (la_cons la_nil)) (blkOk_by (N := N__law_asked) (sc := defScope s__law_asked) (by decide +kernel)) (hr.mono (by decide)))
      (vb_cons (vs_if (vt_cmp (fla := true) (flb := true) (op_neD hr.units) (nomark _) of_ne (ve_bi (fla := true) call_len cf_len B.len PySem.boot_len (va_cons (ve_v 1) va_nil)) (ve_bi (fla := true) call_len cf_len B.len PySem.boot_len (va_cons (ve_v 0) va_nil))) (vb_one (vs_ret ve_bl)) vb_nil)
      (vb_cons (vs_for po rfl (vi_range1 (fl := true) B.range (va_cons (ve_bi (fla := true) call_len cf_len B.len PySem.boot_len (va_cons (ve_v 0) va_nil)) va_nil)) (vg_n 2 nd) (vb_one (vs_if (vt_w (vw_or (vt_not (vt_val (fl := true) (ve_def d__law_is_run tk (hr.mono (by decide)) (va_cons (ve_ix (flb := true) (ru1 hr) (ve_v 1) (ve_v 2)) va_nil) rfl (la_cons la_nil)))) (vw_or1 (vt_cmp (fla := true) (flb := true) (op_neD hr.units) (nomark _) of_ne (ve_ix (flb := true) (ru1 hr) (ve_v 1) (ve_v 2)) (ve_sl (ve_v 0) vo_none (vo_some (fl := true) (ve_op op_addA of_add (ve_v 2) ve_int))))))) (vb_one (vs_ret ve_bl)) vb_nil)))
      (vb_one (vs_ret ve_bl)))))
abbrev N_law : List Str := ["_law_script", "_law_patches", "_law_run"]
theorem sc_law : FnScope N_law ["_law_script"] (defScope s_law) := ⟨rfl, rfl, rfl, by decide +kernel, rfl, by decide +kernel, by decide +kernel⟩
set_option maxHeartbeats 4000000 in
theorem v_law (B : Blt mg) (R : Raw K mg "law" s_law ["_law_script"]) (d__law_names : DefOk P w K mg base "_law_names" 2 ["_law_script", "_law_k", "_law_many_here"] 3 m__law_names) (d__law_many : DefOk P w K mg base "_law_many" 2 ["_law_script", "_law_j"] 2 m__law_many) (d__law_raw_run : DefOk P w K mg base "_law_raw_run" 2 ["_law_script", "_law_k", "_law_j", "_law_starts", "_law_patches", "_law_most"] 6 m__law_raw_run) (d__law_draw : DefOk P w K mg base "_law_draw" 1 ["_law_script", "_law_k", "_law_j"] 3 m__law_draw) (d__law_asked : DefOk P w K mg base "_law_asked" 5 ["_law_run"] 1 m__law_asked) : DefOk P w K mg base "law" 6 ["_law_script"] 1 m_law := by
  have nd := sc_law.nd
  refine def_v N_law b_law R sc_law rfl rfl (fun f cdv A outer s H E hr tk po => ?_)
  exact (vb_cons (vs_set 1 nd (ve_def d__law_names tk (hr.mono (by decide)) (va_cons (ve_v 0) (va_cons ve_int (va_cons (ve_def d__law_many tk (hr.mono (by decide)) (va_cons (ve_v 0) (va_cons ve_int va_nil)) rfl (la_cons (la_cons la_nil))) va_nil))) rfl (la_cons (la_cons (la_cons la_nil)))))
      (vb_cons (vs_set 2 nd (ve_def d__law_raw_run tk (hr.mono (by decide)) (va_cons (ve_v 0) (va_cons ve_int (va_cons ve_int (va_cons (ve_def d__law_names tk (hr.mono (by decide)) (va_cons (ve_v 0) (va_cons ve_int (va_cons ve_int va_nil))) rfl (la_cons (la_cons (la_cons la_nil)))) (va_cons (ve_v 1) (va_cons ve_int va_nil)))))) rfl (la_cons (la_cons (la_cons (la_cons (la_cons (la_cons la_nil))))))))
      (vb_cons (vs_set 2 nd (ve_op op_addA of_add (ve_v 2) (ve_op (flb := true) op_mulA of_mul (ve_sl (ve_v 2) (vo_some (fl := true) ve_int) vo_none) (ve_op (fla := true) (flb := true) op_mod of_mod (ve_def d__law_draw tk (hr.mono (by decide)) (va_cons (ve_v 0) (va_cons ve_int (va_cons ve_int va_nil))) rfl (la_cons (la_cons (la_cons la_nil)))) ve_int))))
      (vb_one (vs_ret (ve_and (fla := true) (ve_def d__law_asked tk (hr.mono (by decide)) (va_cons (ve_v 2) va_nil) rfl (la_cons la_nil)) (ve_and (fla := true) (ve_def d__law_asked tk (hr.mono (by decide)) (va_cons (ve_sl (ve_v 2) vo_none (vo_some (fl := true) ve_int)) va_nil) rfl (la_cons la_nil)) (ve_one (ve_def d__law_asked tk (hr.mono (by decide)) (va_cons (ve_v 2) va_nil) rfl (la_cons la_nil))))))))))
end
theorem all_of {l : PySem.W.OpenLaw} {w : World} {K : PySem.W.Frag} {h : Heap} {mg : Str → Option Value} {fa : Addr} (X : K.In h) (G : h.Ns mainGlobals mg) (hfa : mg "law" = some (.ref fa)) (T : SaysT tops w.params K) :
    ∃ fd : FuncData, (∀ (s : Shared) (v : Value), BindsTo s fd ⟨[v], []⟩ [("_law_script", v)]) ∧ ∀ base : Heap, K.In base → base.Ns mainGlobals mg → FnOk l.prog w K mg base (L2N.CX l.prog w) 6 fa fd ["_law_script"] (spEnd K) := by
  obtain ⟨oc0, od0, sl0, kV0, dc0, pm0, an0, cd0, ct0, l0, c0, k0⟩ : FnAt K (gA K "_law_draw") "_law_draw" "_law_draw" s__law_draw := T.defn 0 (d := ⟨fun K => (gA K "_law_draw"), "_law_draw", "_law_draw", s__law_draw⟩) rfl
  obtain ⟨oc1, od1, sl1, kV1, dc1, pm1, an1, cd1, ct1, l1, c1, k1⟩ : FnAt K (gA K "_law_names") "_law_names" "_law_names" s__law_names := T.defn 1 (d := ⟨fun K => (gA K "_law_names"), "_law_names", "_law_names", s__law_names⟩) rfl
  obtain ⟨oc2, od2, sl2, kV2, dc2, pm2, an2, cd2, ct2, l2, c2, k2⟩ : FnAt K (gA K "_law_raw_run") "_law_raw_run" "_law_raw_run" s__law_raw_run := T.defn 2 (d := ⟨fun K => (gA K "_law_raw_run"), "_law_raw_run", "_law_raw_run", s__law_raw_run⟩) rfl
  obtain ⟨oc3, od3, sl3, kV3, dc3, pm3, an3, cd3, ct3, l3, c3, k3⟩ : FnAt K (gA K "_law_many") "_law_many" "_law_many" s__law_many := T.defn 3 (d := ⟨fun K => (gA K "_law_many"), "_law_many", "_law_many", s__law_many⟩) rfl
  obtain ⟨oc4, od4, sl4, kV4, dc4, pm4, an4, cd4, ct4, l4, c4, k4⟩ : FnAt K (gA K "prefixes") "prefixes" "prefixes" s_prefixes := T.defn 4 (d := ⟨fun K => (gA K "prefixes"), "prefixes", "prefixes", s_prefixes⟩) rfl
  obtain ⟨oc5, od5, sl5, kV5, dc5, pm5, an5, cd5, ct5, l5, c5, k5⟩ : FnAt K (gA K "_law_is_run") "_law_is_run" "_law_is_run" s__law_is_run := T.defn 5 (d := ⟨fun K => (gA K "_law_is_run"), "_law_is_run", "_law_is_run", s__law_is_run⟩) rfl
  obtain ⟨oc6, od6, sl6, kV6, dc6, pm6, an6, cd6, ct6, l6, c6, k6⟩ : FnAt K (gA K "_law_asked") "_law_asked" "_law_asked" s__law_asked := T.defn 6 (d := ⟨fun K => (gA K "_law_asked"), "_law_asked", "_law_asked", s__law_asked⟩) rfl
  obtain ⟨oc7, od7, sl7, kV7, dc7, pm7, an7, cd7, ct7, l7, c7, k7⟩ : FnAt K (gA K "law") "law" "law" s_law := T.defn 7 (d := ⟨fun K => (gA K "law"), "law", "law", s_law⟩) rfl
  have a0 : PySem.W.nsIn K mainGlobals "_law_draw" = some (some (.ref (gA K "_law_draw"))) := tR_ok (T.test 0 rfl)
  have a1 : PySem.W.nsIn K mainGlobals "_law_names" = some (some (.ref (gA K "_law_names"))) := tR_ok (T.test 1 rfl)
  have a2 : PySem.W.nsIn K mainGlobals "_law_raw_run" = some (some (.ref (gA K "_law_raw_run"))) := tR_ok (T.test 2 rfl)
  have a3 : PySem.W.nsIn K mainGlobals "_law_many" = some (some (.ref (gA K "_law_many"))) := tR_ok (T.test 3 rfl)
  have a4 : PySem.W.nsIn K mainGlobals "prefixes" = some (some (.ref (gA K "prefixes"))) := tR_ok (T.test 4 rfl)
  have a5 : PySem.W.nsIn K mainGlobals "_law_is_run" = some (some (.ref (gA K "_law_is_run"))) := tR_ok (T.test 5 rfl)
  have a6 : PySem.W.nsIn K mainGlobals "_law_asked" = some (some (.ref (gA K "_law_asked"))) := tR_ok (T.test 6 rfl)
  have a7 : PySem.W.nsIn K mainGlobals "law" = some (some (.ref (gA K "law"))) := tR_ok (T.test 7 rfl)
  have z0 : PySem.W.nsIn K mainGlobals "int" = some none := tN_ok (T.test 8 rfl)
  have z1 : PySem.W.nsIn K mainGlobals "len" = some none := tN_ok (T.test 9 rfl)
  have z2 : PySem.W.nsIn K mainGlobals "range" = some none := tN_ok (T.test 10 rfl)
  have z3 : PySem.W.nsIn K mainGlobals "isinstance" = some none := tN_ok (T.test 11 rfl)
  have z4 : PySem.W.nsIn K mainGlobals "tuple" = some none := tN_ok (T.test 12 rfl)
  have z5 : PySem.W.nsIn K mainGlobals "str" = some none := tN_ok (T.test 13 rfl)
  have R0 : Raw K mg "_law_draw" s__law_draw ["_law_script", "_law_k", "_law_j"] := raw_mk X G a0 l0 c0 k0 (fun _ _ _ _ _ _ us hl => match us, hl with | [_, _, _], _ => rfl)
  have R1 : Raw K mg "_law_names" s__law_names ["_law_script", "_law_k", "_law_many_here"] := raw_mk X G a1 l1 c1 k1 (fun _ _ _ _ _ _ us hl => match us, hl with | [_, _, _], _ => rfl)
  have R2 : Raw K mg "_law_raw_run" s__law_raw_run ["_law_script", "_law_k", "_law_j", "_law_starts", "_law_patches", "_law_most"] := raw_mk X G a2 l2 c2 k2 (fun _ _ _ _ _ _ us hl => match us, hl with | [_, _, _, _, _, _], _ => rfl)
  have R3 : Raw K mg "_law_many" s__law_many ["_law_script", "_law_j"] := raw_mk X G a3 l3 c3 k3 (fun _ _ _ _ _ _ us hl => match us, hl with | [_, _], _ => rfl)
  have R4 : Raw K mg "prefixes" s_prefixes ["run"] := raw_mk X G a4 l4 c4 k4 (fun _ _ _ _ _ _ us hl => match us, hl with | [_], _ => rfl)
  have R5 : Raw K mg "_law_is_run" s__law_is_run ["_law_value"] := raw_mk X G a5 l5 c5 k5 (fun _ _ _ _ _ _ us hl => match us, hl with | [_], _ => rfl)
  have R6 : Raw K mg "_law_asked" s__law_asked ["_law_run"] := raw_mk X G a6 l6 c6 k6 (fun _ _ _ _ _ _ us hl => match us, hl with | [_], _ => rfl)
  have R7 : Raw K mg "law" s_law ["_law_script"] := raw_mk X G a7 l7 c7 k7 (fun _ _ _ _ _ _ us hl => match us, hl with | [_], _ => rfl)
  have B : Blt mg := ⟨PySem.W.mg_none_of X G z0, PySem.W.mg_none_of X G z1, PySem.W.mg_none_of X G z2, PySem.W.mg_none_of X G z3, PySem.W.mg_none_of X G z4, PySem.W.mg_none_of X G z5⟩
  refine ⟨PySem.W.fnOf "law" "law" (defArgs s_law) (defBody s_law) (defScope s_law) .none kV7 dc7 pm7 an7 cd7 ct7, fun s v => .of_eq rfl, fun base _ _ => ?_⟩
  have d__law_draw : DefOk l.prog w K mg base "_law_draw" 1 ["_law_script", "_law_k", "_law_j"] 3 m__law_draw := v__law_draw B R0
  have d__law_names : DefOk l.prog w K mg base "_law_names" 2 ["_law_script", "_law_k", "_law_many_here"] 3 m__law_names := v__law_names B R1 d__law_draw
  have d__law_raw_run : DefOk l.prog w K mg base "_law_raw_run" 2 ["_law_script", "_law_k", "_law_j", "_law_starts", "_law_patches", "_law_most"] 6 m__law_raw_run := v__law_raw_run B R2 d__law_draw
  have d__law_many : DefOk l.prog w K mg base "_law_many" 2 ["_law_script", "_law_j"] 2 m__law_many := v__law_many B R3 d__law_draw
  have d_prefixes : DefOkY l.prog w K mg base "prefixes" 1 ["run"] 1 m_prefixes := v_prefixes B R4
  have d__law_is_run : DefOk l.prog w K mg base "_law_is_run" 1 ["_law_value"] 1 m__law_is_run := v__law_is_run B R5
  have d__law_asked : DefOk l.prog w K mg base "_law_asked" 5 ["_law_run"] 1 m__law_asked := v__law_asked B R6 d_prefixes d__law_is_run
  have d_law : DefOk l.prog w K mg base "law" 6 ["_law_script"] 1 m_law := v_law B R7 d__law_names d__law_many d__law_raw_run d__law_draw d__law_asked
  exact law_fin d_law hfa (PySem.W.mg_of X G a7) l7 m_law_ok
end VL

open PySem PySem.W PyProof.Rows in
set_option maxRecDepth 100000 in
set_option maxHeartbeats 0 in
theorem PySem.Challenge.cw_patchfacts_k06_prefixes_holds : PySem.Challenge.rw_patchfacts_k06_prefixes.Holds := by
  w_on
  o_law
  refine HandSHeadRun.head_any (r := VL.rowR) (q := VL.seeQ) (H := VL.hookT 12 VL.tops) (ob := VL.obT 12 VL.tops) (M := 30000) (loose := VL.freeN) (kwd := [])
    (d := HandSHeadRun.topDef VL.rowR.prog 9) (VL.obT_eq 12 VL.tops) (by kernel_rfl) (fun s => by kernel_rfl) VL.run_ok (by kernel_rfl) (by kernel_rfl)
    (by kernel_rfl) (by rfl) (by first | assumption | decide +kernel) (by decide +kernel) ⟨rfl, rfl, rfl, rfl, rfl, by decide +kernel⟩ ?hw ?hc
  case hw => w_witness2
  case hc =>
    refine VL.walk_ofT (l := PySem.Challenge.rw_patchfacts_k06_prefixes) (n := 63) (k := 6) (x := "_law_script") (CX := fun w => L2N.CX (PySem.Challenge.rw_patchfacts_k06_prefixes).prog w) rfl (by decide) (by kernel_rfl) ⟨rfl, by decide, by decide⟩ (by decide) ?F (fun _ H s e s' h => VL.cx_end _ _ H s e s' h)
    intro w mg fa h Y G h0
    obtain ⟨K, X, T⟩ := Y
    have e : (HandSHeadRun.topDef VL.rowR.prog 9).name = ("law" : PySem.Str) := by kernel_rfl
    rw [e] at h0
    obtain ⟨fd, hb, hF⟩ := VL.all_of (l := PySem.Challenge.rw_patchfacts_k06_prefixes) (w := w) X G h0 T
    exact ⟨K, fd, X, hb, hF⟩
