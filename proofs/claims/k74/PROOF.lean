import PyProof.Rows.All
import Wide.All
import OpenK.AllK
import Wide.FinOn
import PySem.Challenge.RW_waitnumbers_k74_steps_that_are_none
import KE.KStateDown
import HandS.Base
import HandS.Call
import HandS.Ends
import HandS.More
import HandS.Words
import HandS.WordsExc
import HandS.Defaults
import HandS.Property
import HandS.Head0
import HandS.Head1
import HandS.Head2
import HandS.HeadEnd
import HandS.HeadHook1
import HandS.HeadHook2
import HandS.HeadHook3
import HandS.ClsMeth
import KE.KExcInit
import HandS.List
import HandS.Exc
import HandS.ExcInit
import HandS.ExcField
import PyProof.ReprReads
import PyProof.ReprRoads
import HandS.Comp
import HandS.Star
import HandS.IsInst
import HandS.ForMost
import HandS.MakeKwOnly
import HandS.DictComp
import HandS.DictTup
import KE.KIsAll
import HandS.ExcIs
import KE.GoesEnum
import HandS.Iter
import HandS.Walk
import KE.GoesZip
import KE.GoesMore
import PyProof.AutoSeq1
import HandS.RaiseMore
import HandS.TupAny
import HandS.Style
set_option Elab.async false
set_option linter.all false
set_option maxRecDepth 100000
set_option maxHeartbeats 2000000
/-! A head's facts over written addresses: the part of the heap that is told is the list of the objects at given addresses, each looked at only when it is asked for. -/
namespace Hd
open PySem PySem.Spec PyProof.Rows L2
abbrev Look := Addr → Option Obj
/-- the objects at these addresses -/
def kof (g : Look) (as : List Addr) : PySem.W.Frag := as.map fun a => (a, (g a).getD default)
theorem kof_at {g : Look} {a : Addr} {o : Obj} : ∀ {as : List Addr}, (as.all fun a => (g a).isSome) = true → (kof g as).lookup a = some o → g a = some o
  | [], _, e => nomatch (show (none : Option Obj) = some o from e)
  | b :: r, hs, e => by
    obtain ⟨hb, hr⟩ := Bool.and_eq_true_iff.mp (show ((g b).isSome && r.all fun a => (g a).isSome) = true from hs)
    have e2 : (match a == b with | true => some ((g b).getD default) | false => (kof g r).lookup a) = some o := e
    cases q : (a == b) with
    | true =>
      rw [q] at e2
      obtain ⟨ob, hob⟩ := Option.isSome_iff_exists.mp hb
      rw [hob] at e2
      rw [beq_iff_eq.mp q, hob]
      exact e2
    | false =>
      rw [q] at e2
      exact kof_at hr e2
theorem kof_in {h : Heap} {as : List Addr} (hs : (as.all fun a => (h.get? a).isSome) = true) : (kof h.get? as).In h := fun _ _ e => kof_at hs e

/-- a def at a written address -/
structure DA where
  a : Addr
  name : Str
  qual : Str
  params : Arguments
  body : List Stmt
  scope : Scope
  dfl : List V := []
  kwd : List (Str × V) := []
abbrev FnW : Type := Option (Str × Str × Arguments × FuncBody × Scope × Addr × List (Str × Addr) × Addr)
def fnA (K : PySem.W.Frag) (a : Addr) : FnW := match K.lookup a with
  | some ⟨_, _, .func fd, _⟩ => some (fd.name, fd.qualname, fd.params, fd.body, fd.scope, fd.globals, fd.closure, fd.builtins)
  | _ => none
def DA.val (d : DA) : FnW := some (d.name, d.qual, d.params, .stmts d.body, d.scope, mainGlobals, [], builtinsNs)
def DA.ok (K : PySem.W.Frag) (d : DA) : Bool := PySem.W.keepIn K (.ref d.a) && (match K.lookup d.a with
  | some ⟨_, _, .func fd, _⟩ => PySem.W.codeIn K fd.code d.qual && (He.dflB K fd.defaults d.dfl && He.kwdB K fd.kwdefaults d.kwd)
  | _ => false)
abbrev DA.Fun (K : PySem.W.Frag) (d : DA) (fd : FuncData) : Prop := FunD K d.name d.qual d.params d.body d.scope d.dfl d.kwd d.a fd
theorem DA.fun_ {K : PySem.W.Frag} {d : DA} (e : fnA K d.a = d.val) (c : d.ok K = true) : ∃ fd, d.Fun K fd := by
  obtain ⟨kp, c2⟩ := He.ba c
  unfold fnA at e
  cases q : K.lookup d.a with
  | none =>
    rw [q] at c2
    cases c2
  | some o =>
    obtain ⟨oc, od, dt, osl⟩ := o
    rw [q] at c2 e
    cases dt with
    | func fd =>
      obtain ⟨n1, n2, n3, n4, n5, n6, n7, n8, n9, n10, n11, n12, n13, n14, n15⟩ := fd
      have e2 : (some (n1, n2, n3, n4, n5, n6, n7, n15) : FnW) = some (d.name, d.qual, d.params, .stmts d.body, d.scope, mainGlobals, [], builtinsNs) := e
      simp only [Option.some.injEq, Prod.mk.injEq] at e2
      obtain ⟨h1, h2, h3, h4, h5, h6, h7, h8⟩ := e2
      subst h1 h2 h3 h4 h5 h6 h7 h8
      obtain ⟨k1, k2⟩ := He.ba (show (PySem.W.codeIn K n13 d.qual && (He.dflB K n8 d.dfl && He.kwdB K n9 d.kwd)) = true from c2)
      obtain ⟨k3, k4⟩ := He.ba k2
      exact ⟨_, ⟨oc, od, n8, n9, n10, n11, n12, n13, n14, osl, rfl, q, k1, He.dflB_ok k3, He.kwdB_ok k4⟩, kp⟩
    | _ => cases c2

abbrev Fact := PySem.W.Frag → Bool
abbrev Tab := Addr × List Str
abbrev TabW := List (Option (List (Option (Str × Int))))
abbrev Al : Type := Bool × List FnW × TabW
def obs (as : List Addr) (ds : List DA) (fs : List Fact) (ts : List Tab) (g : Look) : Al :=
  ((as.all fun a => (g a).isSome) && (fs.all (fun f => f (kof g as)) && ds.all fun d => d.ok (kof g as)), ds.map (fun d => fnA (kof g as) d.a), ts.map fun t => He.dicW (kof g as) t.1)
structure Says (ds : List DA) (fs : List Fact) (ts : List Tab) (w : World) (K : PySem.W.Frag) : Prop where
  facts : (fs.all fun f => f K) = true
  oks : (ds.all fun d => d.ok K) = true
  funs : ds.map (fun d => fnA K d.a) = ds.map DA.val
  tabs : (ts.map fun t => He.dicW K t.1) = ts.map fun t => some (He.keysIn w.params t.2)
def hook (as : List Addr) (ds : List DA) (fs : List Fact) (ts : List Tab) (vs : List FnW) (tv : World → TabW) (hv : vs = ds.map DA.val) (ht : ∀ w, tv w = ts.map fun t => some (He.keysIn w.params t.2)) : PySem.W.Hook where
  α := Al
  obs := fun s => obs as ds fs ts s.heap.get?
  val := fun w => (true, vs, tv w)
  says := fun w h => ∃ K : PySem.W.Frag, K.In h ∧ Says ds fs ts w K
  of := fun w s e => by
    have e1 : ((as.all fun a => (s.heap.get? a).isSome) && (fs.all (fun f => f (kof s.heap.get? as)) && ds.all fun d => d.ok (kof s.heap.get? as))) = true := congrArg (fun z : Al => z.1) e
    have e2 : ds.map (fun d => fnA (kof s.heap.get? as) d.a) = vs := congrArg (fun z : Al => z.2.1) e
    have e3 : (ts.map fun t => He.dicW (kof s.heap.get? as) t.1) = tv w := congrArg (fun z : Al => z.2.2) e
    obtain ⟨b1, b2⟩ := He.ba e1
    obtain ⟨b3, b4⟩ := He.ba b2
    exact ⟨_, kof_in b1, b3, b4, e2.trans hv, e3.trans (ht w)⟩
  keeps := fun _ _ _ ⟨K, hK, c⟩ k => ⟨K, PySem.W.Frag.In.keeps hK k, c⟩
theorem obs_eq {as : List Addr} {ds : List DA} {fs : List Fact} {ts : List Tab} {vs : List FnW} {tv : World → TabW} {hv : vs = ds.map DA.val} {ht : ∀ w, tv w = ts.map fun t => some (He.keysIn w.params t.2)} {g : Look} {s : Shared} (h : ∀ a, g a = s.heap.get? a) :
    obs as ds fs ts g = (hook as ds fs ts vs tv hv ht).obs s := by
  have e : g = s.heap.get? := funext h
  rw [e] <;> rfl
section
variable {ds : List DA} {fs : List Fact} {ts : List Tab} {w : World} {K : PySem.W.Frag}
theorem Says.fact (c : Says ds fs ts w K) (i : Nat) {f : Fact} (h : fs[i]? = some f := by rfl) : f K = true := List.all_eq_true.mp c.facts f (List.mem_of_getElem? h)
theorem Says.def_ (c : Says ds fs ts w K) (i : Nat) {d : DA} (h : ds[i]? = some d := by rfl) : ∃ fd, d.Fun K fd := by
  have e2 : (ds.map fun d => fnA K d.a)[i]? = (ds.map DA.val)[i]? := by rw [c.funs]
  rw [List.getElem?_map, List.getElem?_map, h] at e2
  exact DA.fun_ (Option.some.inj e2) (List.all_eq_true.mp c.oks d (List.mem_of_getElem? h))
theorem Says.tab (c : Says ds fs ts w K) (i : Nat) {t : Tab} (h : ts[i]? = some t := by rfl) : ∃ es n, KDict K w t.1 es n := by
  have e2 : (ts.map fun t => He.dicW K t.1)[i]? = (ts.map fun t => some (He.keysIn w.params t.2))[i]? := by rw [c.tabs]
  rw [List.getElem?_map, List.getElem?_map, h] at e2
  exact He.dicW_ok (Option.some.inj e2)
end
/-! ### the facts -/
def nsRef (x : Str) (a : Addr) : Fact := fun K => He.eqO (PySem.W.nsIn K mainGlobals x) (some (some (.ref a)))
def nsFree (x : Str) : Fact := fun K => He.eqO (PySem.W.nsIn K mainGlobals x) (some none)
def nsInt (x : Str) (i : Int) : Fact := fun K => match PySem.W.nsIn K mainGlobals x with
  | some (some (.int j _)) => decide (j = i)
  | _ => false
def nsStr (x z : Str) : Fact := fun K => match PySem.W.nsIn K mainGlobals x with
  | some (some (.str y _)) => decide (y = z)
  | _ => false
def cls (C : Addr) : Fact := fun K => PySem.W.plainGet K C Str.empty && (PySem.W.hasDictIn K C && (PySem.W.plainOver K C && He.eqO (PySem.W.findIn K (.ref C) "__setattr__") (some (some (.builtin "object.__setattr__")))))
def noat (C : Addr) (f : Str) : Fact := fun K => He.eqO (PySem.W.findIn K (.ref C) f) (some none)
def meth (C : Addr) (m : Str) (a : Addr) : Fact := fun K => He.eqO (PySem.W.findIn K (.ref C) m) (some (some (.ref a))) && (PySem.W.isFn K (.ref a) && PySem.W.keepIn K (.ref a))
def mkr (C : Addr) (a : Addr) : Fact := fun K => PySem.W.makesIn K C && (He.eqO (PySem.W.findIn K (.ref C) "__init__") (some (some (.ref a))) && (PySem.W.isFn K (.ref a) && PySem.W.keepIn K (.ref C)))
def prop_ (C : Addr) (f : Str) (p g : Addr) : Fact := fun K => He.eqO (PySem.W.findIn K (.ref C) f) (some (some (.ref p))) && (He.eqO (PySem.W.specialIn K (.ref p) "__get__") (some (some (.builtin "property.__get__"))) && (decide (PySem.W.takesIn K (.ref p) = some true) && (match PySem.W.recIn K p "property" with
  | some (.ref h :: _) => decide (h = g)
  | _ => false)))
section
variable {K : PySem.W.Frag} {h : Heap} {mg : Str → Option Value}
theorem nsRef_ok (X : K.In h) (G : h.Ns mainGlobals mg) {x : Str} {a : Addr} (c : nsRef x a K = true) : mg x = some (.ref a) := PySem.W.mg_of X G (He.eqO_ok c)
theorem nsFree_ok (X : K.In h) (G : h.Ns mainGlobals mg) {x : Str} (c : nsFree x K = true) : mg x = none := PySem.W.mg_none_of X G (He.eqO_ok c)
theorem nsInt_ok (X : K.In h) (G : h.Ns mainGlobals mg) {x : Str} {i : Int} (c : nsInt x i K = true) : ∃ t, mg x = some (.int i t) := He.int_ok X G (x := x) (i := i) c
theorem nsStr_ok (X : K.In h) (G : h.Ns mainGlobals mg) {x z : Str} (c : nsStr x z K = true) : ∃ t, mg x = some (.str z t) := He.str_ok X G (x := x) (z := z) c
theorem cls_ok {C : Addr} (c : cls C K = true) : Cls K C := by
  obtain ⟨c1, c⟩ := He.ba c
  obtain ⟨c2, c⟩ := He.ba c
  obtain ⟨c3, c4⟩ := He.ba c
  exact ⟨c1, c2, c3, He.eqO_ok c4⟩
theorem noat_ok {C : Addr} {f : Str} (c : noat C f K = true) : NoAttr K C f := He.eqO_ok c
theorem meth_ok {C a : Addr} {m : Str} (c : meth C m a K = true) : Meth K C m a := by
  obtain ⟨c1, c⟩ := He.ba c
  obtain ⟨c2, c3⟩ := He.ba c
  exact ⟨He.eqO_ok c1, c2, c3⟩
theorem mkr_ok {C a : Addr} (c : mkr C a K = true) : Mk K C a := by
  obtain ⟨c1, c⟩ := He.ba c
  obtain ⟨c2, c⟩ := He.ba c
  obtain ⟨c3, c4⟩ := He.ba c
  exact ⟨c1, He.eqO_ok c2, c3, c4⟩
theorem prop_ok {C p g : Addr} {f : Str} (c : prop_ C f p g K = true) : PropOf K C f p g := by
  obtain ⟨c1, c⟩ := He.ba c
  obtain ⟨c2, c⟩ := He.ba c
  obtain ⟨c3, c4⟩ := He.ba c
  refine ⟨He.eqO_ok c1, He.eqO_ok c2, of_decide_eq_true c3, ?_⟩
  cases q : PySem.W.recIn K p "property" with
  | none =>
    rw [q] at c4
    cases c4
  | some l =>
    rw [q] at c4
    cases l with
    | nil => cases c4
    | cons v r =>
      cases v with
      | ref b =>
        have e : b = g := of_decide_eq_true c4
        exact ⟨r, by rw [e]⟩
      | _ => cases c4
end

/-! ### tables and tuples of the module -/
def nsV (a : Addr) (k : Str) (v : V) : Fact := fun K => match PySem.W.nsIn K a k with
  | some (some u) => He.relB v u
  | _ => false
def tupA (a : Addr) (vs : List V) : Fact := fun K => match K.lookup a with
  | some ⟨.type c, _, .seq its _, _⟩ => decide (c = "tuple") && (decide (its.size ≤ sizeLine) && He.relAll vs its.toList)
  | _ => false
theorem nsV_ok {K : PySem.W.Frag} {a : Addr} {k : Str} {v : V} (c : nsV a k v K = true) : ∃ u, PySem.W.nsIn K a k = some (some u) ∧ RelV v u := by
  unfold nsV at c
  cases q : PySem.W.nsIn K a k with
  | none =>
    rw [q] at c
    cases c
  | some r =>
    rw [q] at c
    cases r with
    | none => cases c
    | some u => exact ⟨u, rfl, He.relB_ok c⟩
theorem tupA_ok {K : PySem.W.Frag} {a : Addr} {vs : List V} (c : tupA a vs K = true) (H : Hp) : SqT K H a vs := by
  unfold tupA at c
  cases q : K.lookup a with
  | none =>
    rw [q] at c
    cases c
  | some o =>
    obtain ⟨oc, od, dt, osl⟩ := o
    rw [q] at c
    cases oc with
    | type t =>
      cases dt with
      | seq its n =>
        obtain ⟨h1, h2⟩ := He.ba c
        obtain ⟨h3, h4⟩ := He.ba h2
        have et : t = "tuple" := of_decide_eq_true h1
        exact .inr ⟨_, its, n, q, by rw [et], rfl, of_decide_eq_true h3, He.relAll_ok h4⟩
      | _ => cases c
    | _ => cases dt <;> cases c
/-- the module's dict at a: exactly these entries -/
structure Table (w : World) (K : PySem.W.Frag) (a : Addr) (kvs : List (Str × V)) : Prop where
  kd : ∃ es n, KDict K w a es n
  val : ∀ q ∈ kvs, ∃ u, PySem.W.nsIn K a q.1 = some (some u) ∧ RelV q.2 u
  miss : ∀ z, z ∉ kvs.map (·.1) → PySem.W.nsIn K a z = some none
theorem key_of {e : DictEntry} {k : Str} {i : Int} (h : He.keyOf e = some (k, i)) : ∃ t, e.key = .str k t := by
  unfold He.keyOf at h
  cases q : e.key with
  | str x t =>
    rw [q] at h
    have e2 := Option.some.inj h
    exact ⟨t, by rw [(Prod.mk.inj e2).1]⟩
  | _ =>
    rw [q] at h
    cases h
theorem keys_miss {P : Params} {z : Str} : ∀ {l : List DictEntry} {ks : List Str}, l.map He.keyOf = He.keysIn P ks → z ∉ ks → l.find? (·.key.isStr z) = none ∧ l.any (·.refKey) = false
  | [], _, _, _ => ⟨rfl, rfl⟩
  | e :: r, [], h, _ => by cases h
  | e :: r, k :: ks, h, hz => by
    have h1 : He.keyOf e :: r.map He.keyOf = some (k, PyData.keyHash P k) :: He.keysIn P ks := h
    injection h1 with h2 h3
    obtain ⟨t, et⟩ := key_of h2
    obtain ⟨i1, i2⟩ := keys_miss h3 (fun q => hz (List.mem_cons_of_mem _ q))
    have ne : ¬ k = z := fun q => hz (by rw [q]; exact List.mem_cons_self)
    have b1 : e.key.isStr z = false := by
      rw [et]
      show (k == z) = false
      exact beq_eq_false_iff_ne.mpr ne
    have b2 : e.refKey = false := by
      unfold DictEntry.refKey
      rw [et]
    exact ⟨by rw [List.find?_cons, b1]; exact i1, by rw [List.any_cons, b2]; exact i2⟩
theorem table_of {w : World} {K : PySem.W.Frag} {a : Addr} {ks : List Str} {kvs : List (Str × V)} (h : He.dicW K a = some (He.keysIn w.params ks)) (e : kvs.map (·.1) = ks) (hv : ∀ q ∈ kvs, ∃ u, PySem.W.nsIn K a q.1 = some (some u) ∧ RelV q.2 u) : Table w K a kvs := by
  refine ⟨He.dicW_ok h, hv, fun z hz => ?_⟩
  rw [e] at hz
  obtain ⟨es, n, D⟩ := He.dicW_ok h
  unfold He.dicW at h
  rw [D.at_] at h
  have h2 : (match decide ("dict" = "dict") && ((#[] : Array (Option Value)).isEmpty && !(a == sysModules)) with
    | true => some (es.toList.map He.keyOf)
    | false => none) = some (He.keysIn w.params ks) := h
  rw [D.low] at h2
  have h3 : es.toList.map He.keyOf = He.keysIn w.params ks := Option.some.inj h2
  obtain ⟨q1, q2⟩ := keys_miss h3 hz
  unfold PySem.W.nsIn
  rw [D.at_]
  show (match es.toList.find? (·.key.isStr z) with | some e => _ | none => _) = _
  rw [q1]
  show (if es.toList.any (·.refKey) then _ else _) = _
  rw [q2]
  rfl
theorem Says.tabW {ds : List DA} {fs : List Fact} {ts : List Tab} {w : World} {K : PySem.W.Frag} (c : Says ds fs ts w K) (i : Nat) {t : Tab} (h : ts[i]? = some t := by rfl) : He.dicW K t.1 = some (He.keysIn w.params t.2) := by
  have e2 : (ts.map fun t => He.dicW K t.1)[i]? = (ts.map fun t => some (He.keysIn w.params t.2))[i]? := by rw [c.tabs]
  rw [List.getElem?_map, List.getElem?_map, h] at e2
  exact Option.some.inj e2
end Hd
set_option Elab.async false
set_option linter.all false
set_option maxRecDepth 100000
set_option maxHeartbeats 4000000
/-! a class's own whole numbers -/
namespace Hd
open PySem PySem.Spec PyProof.Rows L2
def crd (C : Addr) : Fact := fun K => PySem.W.readsIn K C (.type "type") && He.eqO (PySem.W.specialIn K (.ref C) "__getattribute__") (some (some (.builtin "type.__getattribute__")))
def cvI (C : Addr) (f : Str) (i : Int) : Fact := fun K => match PySem.W.findCls K (.ref C) (.type "type") f with
  | some (.val (.int j _)) => decide (j = i)
  | _ => false
theorem crd_ok {K : PySem.W.Frag} {C : Addr} (c : crd C K = true) : ClX.CRead K C (.type "type") := by
  obtain ⟨c1, c2⟩ := He.ba c
  exact ⟨c1, He.eqO_ok c2⟩
theorem cvI_ok {K : PySem.W.Frag} {C : Addr} {f : Str} {i : Int} (c : cvI C f i K = true) : ∃ u, ClX.CVal K C (.type "type") f (.int i) u := by
  unfold cvI at c
  cases q : PySem.W.findCls K (.ref C) (.type "type") f with
  | none =>
    rw [q] at c
    cases c
  | some r =>
    rw [q] at c
    cases r with
    | val v =>
      cases v with
      | int j t =>
        have e : j = i := of_decide_eq_true c
        subst e
        exact ⟨_, q, _, rfl⟩
      | _ => cases c
    | _ => cases c
end Hd
set_option Elab.async false
set_option linter.all false
set_option maxRecDepth 100000
set_option maxHeartbeats 2000000
/-! the head's run told in parts: one kernel run a part, each with less to hold -/
namespace Hd
open PySem PySem.W PySem.Calls PySem.Spec PyProof.Rows L2 HandSHeadRun
def Part {β : Type} (r : PySem.W.OpenRow) (M : Nat) (w : World) (f : PySem.W.SharedT → β) (v : β) : Prop := ∀ os : OsState, (endF (stepQ (denQ tabQ) r.prog w) M r.prog w os).map f = some v
section
variable {r : PySem.W.OpenRow} {q : Program} {M : Nat} {w : World} {loose : List Str} {as : List Addr} {ds ds1 ds2 : List DA} {fs : List Fact} {ts : List Tab} {vs v1 v2 : List FnW} {tv : World → TabW} {hv : vs = ds.map DA.val} {ht : ∀ w, tv w = ts.map fun t => some (He.keysIn w.params t.2)}
def obF (as : List Addr) (fs : List Fact) (g : Look) : Bool := (as.all fun a => (g a).isSome) && fs.all fun f => f (kof g as)
def obD (as : List Addr) (ds : List DA) (g : Look) : Bool × List FnW := (ds.all fun d => d.ok (kof g as), ds.map fun d => fnA (kof g as) d.a)
def obT (as : List Addr) (ts : List Tab) (g : Look) : TabW := ts.map fun t => He.dicW (kof g as) t.1
noncomputable abbrev lookSeen (r : PySem.W.OpenRow) (q : Program) (loose : List Str) (w : World) (s : PySem.W.SharedT) := (looksF r.prog (boot_heap w.params) s.abs, seenQ q loose (importedModules r.prog.main.body) (fun s => PySem.W.xlAt q [] s && PySem.W.recOk r.toRowW.records s) s.abs)
theorem Part.byRow {β : Type} {f : World → PySem.W.SharedT → β} {v : World → β} (h0 : ∀ w : World, Part r M (w.withFollow "special-get-raises" false) (f (w.withFollow "special-get-raises" false)) (v (w.withFollow "special-get-raises" false)))
    (h1 : ∀ w : World, Part r M (w.withFollow "special-get-raises" true) (f (w.withFollow "special-get-raises" true)) (v (w.withFollow "special-get-raises" true))) (w : World) : Part r M w (f w) (v w) :=
  PySem.W.byRow2 "special-get-raises" (P := fun w => Part r M w (f w) (v w)) h0 h1 w
theorem run_of3 (p1 : Part r M w (fun s => (lookSeen r q loose w s, obF as fs (getT s))) ((true, PySem.W.openGood q loose), true)) (p2 : Part r M w (fun s => obD as ds1 (getT s)) (true, v1)) (p3 : Part r M w (fun s => (obD as ds2 (getT s), obT as ts (getT s))) ((true, v2), tv w))
    (ed : ds = ds1 ++ ds2) (ev : vs = v1 ++ v2) : RunEq r q (hook as ds fs ts vs tv hv ht) (fun s => obs as ds fs ts (getT s)) M loose w := by
  intro os
  have a1 := p1 os
  have a2 := p2 os
  have a3 := p3 os
  cases e : endF (stepQ (denQ tabQ) r.prog w) M r.prog w os with
  | none =>
    rw [e] at a1
    cases a1
  | some s =>
    rw [e] at a1 a2 a3
    have b1 := Option.some.inj a1
    have b2 := Option.some.inj a2
    have b3 := Option.some.inj a3
    simp only [Prod.mk.injEq, obD, obF, obT, Bool.and_eq_true] at b1 b2 b3
    obtain ⟨⟨c1, c2⟩, c3, c4⟩ := b1
    obtain ⟨d1, d2⟩ := b2
    obtain ⟨⟨f1, f2⟩, f3⟩ := b3
    show some _ = some _
    congr 1
    show (_, _, obs as ds fs ts (getT s)) = (true, PySem.W.openGood q loose, (true, vs, tv w))
    rw [c1, c2]
    have g : obs as ds fs ts (getT s) = (true, vs, tv w) := by
      unfold obs
      rw [ed, List.all_append, List.map_append, c3, c4, d1, d2, f1, f2, f3, ev]
      rfl
    rw [g]
end
end Hd
set_option Elab.async false
set_option linter.all false
set_option maxRecDepth 100000
set_option maxHeartbeats 4000000
/-! Own exception classes over any built-in base, their __init__ walked as a def: the stores and the making, by the base's facts. -/
namespace Xb
open PySem PySem.Spec PyProof.Rows L2
/-- what is told of such a class -/
structure ExCls (K : PySem.W.Frag) (C : Addr) : Prop where
  base : ∃ (B newId initId : String) (bmB : List Value), PySem.ExcBaseFacts B newId initId bmB ∧ PySem.StoreFacts B bmB "object.__setattr__" "object" ∧ PySem.W.excInitIn K C bmB newId = true ∧ PySem.W.excOver K C bmB = true
  hd : PySem.W.hasDictIn K C = true
  sa : PySem.W.findIn K (.ref C) "__setattr__" = some (some (.builtin "object.__setattr__"))
  exC : PySem.W.subIn K (.ref C) (.type "BaseException") = some true
  tyC : PySem.W.typeIn K (.ref C) = some (.type "type")
  kC : PySem.W.keepIn K (.ref C) = true
abbrev recO (C t1 : Addr) (d : Option Addr) : Obj := { cls := .ref C, dict := d, data := .fields #[.ref t1, .none, .none, .none, .bool false, .none] }
section
open Builtin Builtin.ObjectAttr
variable {prog : Program} {w : World} {A : Around} {R : Result → Shared → Prop} {hp : Heap} {g : Array GenState} {d : Drawn} {t : Nat} {os : OsState} {B : String} {bmB : List Value} {K : PySem.W.Frag} {x C dx t1 : Addr} {name : Str} {tk : Tok} {v : Value}
/-- the first field: the dict is made -/
theorem set_first (SF : PySem.StoreFacts B bmB "object.__setattr__" "object") (X : K.In hp) (hx : hp.get? x = some (recO C t1 none)) (ov : PySem.W.excOver K C bmB = true) (hh : PySem.W.hasDictIn K C = true) (ha : PySem.W.findIn K (.ref C) name = some none)
    (hq : ∀ h' tk' dx, (∀ b o, b ≠ x → hp.get? b = some o → h'.get? b = some o) → hp.objs.size ≤ dx → dx ≠ x → h'.get? x = some (recO C t1 (some dx)) → h'.Ns1 dx (fun y => if y = name then some v else none) → R (.ok (.ret .none)) ⟨h', g, d, tk', os⟩) :
    codeAny (model prog w) A (.call (.builtin "object.__setattr__") ⟨[.ref x, .str name tk, v], []⟩) R ⟨hp, g, d, t, os⟩ := by
  have tkr : PySem.W.takerIn K C name = some none := by
    unfold PySem.W.takerIn
    rw [ha]
    rfl
  have far : x ≠ hp.objs.size := Nat.ne_of_lt (Heap.lt_size hx)
  obtain ⟨cd, hc, hdd⟩ := PySem.W.any_some hh
  have lk : PySem.W.Looks (model prog w) hp (classData C) cd := PySem.W.looks_clsIn X hc
  refine PySem.W.osa_openX (od := none) SF X ⟨hx, rfl, rfl, trivial⟩ ov tkr fun b => ?_
  show wpAny _ _ (storeInOwnDict (.ref x) (.ref C) (.str name tk) name v b) _ _ _
  obtain ⟨nm, bs, mro, ns, qn, hd0, sn, sb, ab, col, del⟩ := cd
  dsimp only at hdd
  subst hdd
  unfold storeInOwnDict ownDictForStores
  repeat (first | with_reducible refine PySem.HandSPX.store_in_new ?_ ?_ | with_reducible refine wpAny_loadPart_at hx ?_ | with_reducible refine lk.at ?_ | wp_step)
  · exact ⟨_, #[], _, (Heap.get?_update_ne _ _ _ _ far.symm).trans (Heap.get?_push_at rfl rfl), rfl, fun e he => absurd he (by simp), fun _ => rfl⟩
  · intro h' tk' hn' hs
    have stand : (hp.push { cls := .type "dict", data := .dict #[] }).get? x = some (recO C t1 none) := Heap.get?_push_of_some _ hx
    refine hq h' tk' hp.objs.size (fun b o hb ho => ?_) (Nat.le_refl _) far.symm ?_ hn'
    · have q1 := Heap.get?_push_of_some ({ cls := .type "dict", data := .dict #[] } : Obj) ho
      exact (hs.2 b (Nat.ne_of_lt (Heap.lt_size ho))).trans ((Heap.get?_update_ne _ _ _ _ hb).trans q1)
    · have q2 := Heap.get?_update_self (fun o : Obj => { o with dict := some hp.objs.size }) stand rfl
      exact (hs.2 x far).trans q2
/-- a further field -/
theorem set_more (SF : PySem.StoreFacts B bmB "object.__setattr__" "object") {m0 : Str → Option Value} {nl : List Str} (X : K.In hp) (hx : hp.get? x = some (recO C t1 (some dx))) (hns : hp.Ns1 dx m0) (hw : Within m0 nl) (hz : nl.length ≤ 1000) (ov : PySem.W.excOver K C bmB = true) (hh : PySem.W.hasDictIn K C = true)
    (ha : PySem.W.findIn K (.ref C) name = some none)
    (hq : ∀ h' tk', (∀ b o, b ≠ dx → hp.get? b = some o → h'.get? b = some o) → h'.Ns1 dx (fun y => if y = name then some v else m0 y) → R (.ok (.ret .none)) ⟨h', g, d, tk', os⟩) :
    codeAny (model prog w) A (.call (.builtin "object.__setattr__") ⟨[.ref x, .str name tk, v], []⟩) R ⟨hp, g, d, t, os⟩ := by
  have tkr : PySem.W.takerIn K C name = some none := by
    unfold PySem.W.takerIn
    rw [ha]
    rfl
  obtain ⟨oD, esD, epD, hoD, _, _⟩ := hns.count hw
  obtain ⟨cd, hc, hdd⟩ := PySem.W.any_some hh
  have lk : PySem.W.Looks (model prog w) hp (classData C) cd := PySem.W.looks_clsIn X hc
  refine PySem.W.osa_openX (od := some oD) SF X ⟨hx, rfl, rfl, hoD⟩ ov tkr fun b => ?_
  show wpAny _ _ (storeInOwnDict (.ref x) (.ref C) (.str name tk) name v b) _ _ _
  obtain ⟨nm, bs, mro, ns, qn, hd0, sn, sb, ab, col, del⟩ := cd
  dsimp only at hdd
  subst hdd
  unfold storeInOwnDict ownDictForStores
  repeat (first | with_reducible refine PySem.OEX.store_in_old hns hw hz ?_ | with_reducible refine wpAny_loadPart_at hx ?_ | with_reducible refine lk.at ?_ | wp_step)
  intro h' tk' hn' hs
  exact hq h' tk' (fun b o hb ho => (hs.2 b hb).trans ho) hn'
end
section
variable {X : Cx} {pins : List (Addr × Obj)} {σ : L2.St} {H : Hp} {s : Shared} {a C dx : Addr} {f : Str} {y : V} {u : Value} {fs : List (Str × V)} {Q : Unit → Shared → Prop} {E : Value → Shared → Prop} {A : Around}
theorem keep_first (T : ExCls X.K C) (I : Inv X pins σ H s) (e : H a = some (exo a C none)) (hno : PySem.W.findIn X.K (.ref C) f = some none) (ry : RelV y u)
    (h : ∀ dx s', H dx = none → dx ≠ a → Inv X pins σ (upd (upd H dx (exd dx [(f, y)])) a (exo a C (some dx))) s' → Q () s') : wpAny (model X.prog X.w) A (setAttr (.ref a) f u) Q E s := by
  obtain ⟨B, _, _, bmB, _, SF, _, ov⟩ := T.base
  obtain ⟨t1, ho⟩ := exo_at I.hok e
  obtain ⟨hp, g, d, t, os⟩ := s
  refine PySem.W.set_plain I.kIn (ox := recO C t1 none) (od := none) ⟨ho, rfl, rfl, trivial⟩ T.sa ?_
  refine set_first SF I.kIn ho ov T.hd hno (fun h' tk' dx k dn dne hx hn => ?_)
  have hnd : H dx = none := I.hok.fresh dn
  have nd : ∀ {b : Addr} {o : Obj}, hp.get? b = some o → b ≠ dx := fun {b o} q => Nat.ne_of_lt (Nat.lt_of_lt_of_le (Heap.lt_size q) dn)
  have na : ∀ {b : Addr}, H b = none → b ≠ a := fun {b} n z => by rw [z, e] at n; cases n
  have hUn : Un X.fs [] H (upd (upd H dx (exd dx [(f, y)])) a (exo a C (some dx))) hp h' := by
    refine ⟨fun b o q n _ _ => k b o (na n) q, fun b o q n _ _ => ⟨o.slots, k b o (na n) q⟩, fun b o q n _ => ?_, fun b o q _ => ?_, fun b xs q => ?_, fun b o v q => ?_, fun b ps q => ⟨#[], ?_⟩⟩
    · rw [upd_ne (na n), upd_ne (nd q)]; exact n
    · by_cases hb : b = a
      · exact ⟨_, by rw [hb]; exact hx⟩
      · exact ⟨o, k b o hb q⟩
    · rw [upd_ne (at_ne e q exo_tup), upd_ne (ne_of_none q hnd)]; exact q
    · rw [upd_ne (at_ne e q exo_frz), upd_ne (ne_of_none q hnd)]; exact q
    · rw [upd_ne (at_ne e q exo_tbl), upd_ne (ne_of_none q hnd), q]; simp
  refine h dx _ hnd dne (I.un (t' := tk') hUn fun b o q => ?_)
  by_cases hb : b = a
  · subst hb
    rw [upd_same] at q
    cases q
    exact exo_ok hx
  · rw [upd_ne hb] at q
    by_cases hd : b = dx
    · subst hd
      rw [upd_same] at q
      cases q
      exact exd_ok hn (relO_put (fs := []) ry fun g => True.intro)
    · rw [upd_ne hd] at q
      have z := I.hok b o q
      refine z.stay (fun c v hc zz => k c v ?_ zz) (fun c hc => ?_) fun c xs hc => ?_
      · rcases hc with hc | hc
        · rw [hc]; exact hb
        · exact at_ne e hc exo_own
      · rw [upd_ne (at_ne e hc exo_own), upd_ne (ne_of_none hc hnd)]; exact hc
      · rw [upd_ne (at_ne e hc exo_tup), upd_ne (ne_of_none hc hnd)]; exact hc
theorem keep_more (T : ExCls X.K C) (I : Inv X pins σ H s) (e : H a = some (exo a C (some dx))) (ed : H dx = some (exd dx fs)) (hl : fs.length ≤ 900) (hno : PySem.W.findIn X.K (.ref C) f = some none) (ry : RelV y u)
    (h : ∀ s', Inv X pins σ (upd H dx (exd dx ((f, y) :: fs))) s' → Q () s') : wpAny (model X.prog X.w) A (setAttr (.ref a) f u) Q E s := by
  obtain ⟨B, _, _, bmB, _, SF, _, ov⟩ := T.base
  obtain ⟨t1, ho⟩ := exo_at I.hok e
  obtain ⟨mA, hns, rel⟩ := exd_at I.hok ed
  have hw := within_of rel
  obtain ⟨hp, g, d, t, os⟩ := s
  obtain ⟨oD, _, _, hoD, _, _⟩ := hns.count hw
  refine PySem.W.set_plain I.kIn (ox := recO C t1 (some dx)) (od := some oD) ⟨ho, rfl, rfl, hoD⟩ T.sa ?_
  refine set_more SF I.kIn ho hns hw (by rw [List.length_map]; omega) ov T.hd hno (fun h' tk' k hn => ?_)
  have hd : ∃ o, h'.get? dx = some o := by
    obtain ⟨o, _, _, e', _⟩ := hn
    exact ⟨o, e'⟩
  have mu : Mut (H dx) := by rw [ed]; exact True.intro
  exact h _ (I.write (t' := tk') (x := dx) (e := dx) (o := exd dx ((f, y) :: fs)) mu (.inl rfl) k hd (exd_ok hn (relO_put ry rel)))
end
/-- self.f = e in such an __init__ -/
def tSt (K : PySem.W.Frag) (f : Str) (to te : TE) : TS := fun D σ H => te σ H fun y H1 => to σ H1 fun x H2 => ∃ a C : Addr, x = .ref a ∧ ExCls K C ∧ PySem.W.findIn K (.ref C) f = some none ∧
  ((H2 a = some (exo a C none) ∧ ∀ dx, H2 dx = none → dx ≠ a → D.nx σ (upd (upd H2 dx (exd dx [(f, y)])) a (exo a C (some dx)))) ∨
    ∃ (dx : Addr) (fs : List (Str × V)), H2 a = some (exo a C (some dx)) ∧ H2 dx = some (exd dx fs) ∧ fs.length ≤ 900 ∧ D.nx σ (upd H2 dx (exd dx ((f, y) :: fs))))
section
variable {X : Cx} {o e : Expr} {es : List Expr} {to te : TE} {ta : TA} {f : Str} {p p' p1 p2 pos : Pos}
theorem ps_st (ho : PE X o to) (he : PE X e te) (hs : swapsWith e (some (.Attribute o f p')) pos.line X.env = pure false := by rfl) : PS X (.Assign [.Attribute o f p'] e pos) (tSt X.K f to te) := by
  refine ⟨fun pins s σ H D I h => ?_⟩
  refine plainObj_wpAny_Assign_Attribute (thn (he.run pins s σ H _ I h) fun v s1 ⟨y, H1, I1, r1, q1⟩ => thn (ho.run pins s1 σ H1 _ I1 q1) fun u s2 ⟨x, H2, I2, r2, a, C, ex, T, hno, q⟩ => ?_) hs
  subst ex
  obtain rfl : u = Value.ref a := r2
  rcases q with ⟨ea, q⟩ | ⟨dx, fs, ea, ed, hl, q⟩
  · exact keep_first T I2 ea hno r1 fun dx s' n ne J => ⟨σ, _, J, q dx n ne⟩
  · exact keep_more T I2 ea ed hl hno r1 fun s' J => ⟨σ, _, J, q⟩
/-- C(e, ..) with C's own __init__ -/
theorem run_new {CX : CXT} {C fI : Addr} {k : Nat} {fd : FuncData} {ps : List Str} {sp : Sp} {ds : List Value} {dvs vs : List V} {us : List Value} {pins : List (Addr × Obj)} {s1 : Shared} {σ : L2.St} {H1 : Hp} {Q : XK} (T : ExCls X.K C) (iC : PySem.W.findIn X.K (.ref C) "__init__" = some (some (.ref fI))) (tI : PySem.W.typeIn X.K (.ref fI) = some (.type "function"))
    (F1 : FnOk X.prog X.w X.K X.mg X.base CX k fI fd ps sp) (hr : Room (k + 1) X.A) (hb : Binds X.K fd ps ds) (hd : Vals dvs ds) (hx : Passes CX X (fun _ _ _ => False)) (I1 : Inv X pins σ H1 s1) (r1 : Vals vs us) (hz : vs.length ≤ 1000)
    (q1 : ∀ a, H1 a = none → sp (.ref a :: (vs ++ dvs)) (upd H1 a (exo a C none)) (fun v H2 => v = .non ∧ ∃ (d : Addr) (fs : List (Str × V)), H2 a = some (exo a C (some d)) ∧ H2 d = some (exd d fs) ∧ H1 d = none ∧ Q (.ref C) (some d) (upd (del H2 a) d (.xd fs))) (fun _ _ _ => False)) :
    wpAny (model X.prog X.w) X.A (call (.ref C) us) (MkP X pins σ Q) X.xe s1 := by
  obtain ⟨B, newId, initId, bmB, BF, SF, iq, ov⟩ := T.base
  obtain ⟨hp, g, dr, tk, os⟩ := s1
  have hsz : hp.objs.size ≤ hp.objs.size + 1 := Nat.le_succ _
  have hn : H1 (hp.objs.size + 1) = none := I1.hok.fresh hsz
  have hq := q1 (hp.objs.size + 1) hn
  have kk : ∀ b o, hp.get? b = some o → ((hp.push (PySem.W.kdv_tup us)).push (PySem.HandSPX.excO C hp.objs.size)).get? b = some o := fun b o e => Heap.get?_push_of_some _ (Heap.get?_push_of_some _ e)
  have hget : ((hp.push (PySem.W.kdv_tup us)).push (PySem.HandSPX.excO C hp.objs.size)).get? (hp.objs.size + 1) = some (PySem.HandSPX.excO C hp.objs.size) := by heap_get
  have I2 : Inv X pins σ (upd H1 (hp.objs.size + 1) (exo (hp.objs.size + 1) C none)) ⟨(hp.push (PySem.W.kdv_tup us)).push (PySem.HandSPX.excO C hp.objs.size), g, dr, tk, os⟩ :=
    I1.laid (t' := tk) (a := hp.objs.size + 1) (o := exo (hp.objs.size + 1) C none) (h' := (hp.push (PySem.W.kdv_tup us)).push (PySem.HandSPX.excO C hp.objs.size)) kk hsz (exo_ok hget)
  have r2 : Vals (V.ref (hp.objs.size + 1) :: (vs ++ dvs)) (Value.ref (hp.objs.size + 1) :: (us ++ ds)) := .cons rfl (r1.append hd)
  have hl : (Value.ref (hp.objs.size + 1) :: us ++ ds).length = ps.length := by
    have e := r2.length
    rw [F1.len _ _ _ _ hq] at e
    exact e.symm
  have hus : us.length ≤ sizeLine := by
    rw [← Paired.length r1, sizeLine_eq]
    omega
  obtain ⟨nm, N', qn, bs, bm, hdct, sn, sub, ab, col, dd, k0, k1, k2, k3, k5, hC, hT⟩ := PySem.W.excInit_of I1.kIn iq
  refine wpAny_call (PySem.HandSPX.call_own BF hT hC (PySem.W.looks_findIn I1.kIn iC) (fun self => PySem.W.bind_fn I1.kIn self tI) hus (codeAny_mono (F1.run _ X.stack _ _ ⟨Value.ref (hp.objs.size + 1) :: us, []⟩ _ _ _ (fun _ _ _ => False) (hr.make C us []) (I2.env0.make C us []) (hb _ (Value.ref (hp.objs.size + 1) :: us) I2.kIn hl) r2 hq) fun r s' hq' => ?_))
  cases r with
  | error er => exact hx pins σ _ _ er s' I2 hq'
  | ok fl =>
    cases fl with
    | ret u =>
      obtain ⟨v, H2, os2, bare2, un2, hok2, rv, ev, d, fs, ea, ed, hd1, q2⟩ := hq'
      subst ev
      obtain ⟨h2, g2, d2, t2, os'⟩ := s'
      exact ⟨rv, mk_end (raises_own T.exC T.tyC) I1 hsz kk un2 hok2 os2 bare2 ea ed hd1 q2⟩
    | next => exact False.elim hq'
    | brk => exact False.elim hq'
    | cont => exact False.elim hq'
theorem pmk {CX : CXT} {x : Str} {C fI : Addr} {k : Nat} {fd : FuncData} {ps : List Str} {sp : Sp} {ds : List Value} {dvs : List V} (T : ExCls X.K C) (iC : PySem.W.findIn X.K (.ref C) "__init__" = some (some (.ref fI))) (tI : PySem.W.typeIn X.K (.ref fI) = some (.type "function"))
    (F1 : FnOk X.prog X.w X.K X.mg X.base CX k fI fd ps sp) (hr : Room (k + 1) X.A) (hb : Binds X.K fd ps ds) (hd : Vals dvs ds) (hx : Passes CX X (fun _ _ _ => False)) (hg : Gl X x) (hm : X.mg x = some (.ref C)) (ha : PA X (e :: es) ta)
    (hdb : (x == ("__debug__" : Str)) = false := by decide) (he : starEach (e :: es) X.env = (false, eval e X.env) :: starEach es X.env := by rfl) (hpl : (backTo pos (starEach es X.env)).any (·.1) = false := by rfl) :
    PMk X (.Call (.Name x p) (e :: es) [] pos) (tMkO C sp dvs ta) := by
  intro pins s σ H Q I h
  refine wpAny_Call_Name_kw (ld_glob I hg hm ?_ hdb)
  refine PySem.W.callWith_K (h₀ := X.base) I.ok.mod.kin T.kC (thn (ha.run pos pins s σ H _ I h) fun us s1 ⟨vs, H1, I1, r1, hz, q1⟩ => ⟨I1.kIn, ?_⟩) he hpl
  show wpAny _ _ (call (.ref C) us) _ _ _
  exact run_new T iC tI F1 hr hb hd hx I1 r1 hz q1
end

/-! ### facts of such a class -/
/-- a built-in base: its name and its mro -/
structure Bas where
  name : String
  mro : List Value
def bLookup : Bas := ⟨"LookupError", [.type "LookupError", .type "Exception", .type "BaseException", .type "object"]⟩
def bType : Bas := ⟨"TypeError", [.type "TypeError", .type "Exception", .type "BaseException", .type "object"]⟩
def bValue : Bas := ⟨"ValueError", [.type "ValueError", .type "Exception", .type "BaseException", .type "object"]⟩
def bRuntime : Bas := ⟨"RuntimeError", [.type "RuntimeError", .type "Exception", .type "BaseException", .type "object"]⟩
def bOverflow : Bas := ⟨"OverflowError", [.type "OverflowError", .type "ArithmeticError", .type "Exception", .type "BaseException", .type "object"]⟩
def Bas.newId (b : Bas) : String := b.name ++ ".__new__"
def bases : List Bas := [bLookup, bType, bValue, bRuntime, bOverflow]
theorem base_ok {b : Bas} (h : b ∈ bases) : ∃ initId, PySem.ExcBaseFacts b.name b.newId initId b.mro ∧ PySem.StoreFacts b.name b.mro "object.__setattr__" "object" := by
  unfold bases at h
  simp only [List.mem_cons, List.not_mem_nil, or_false] at h
  rcases h with h | h | h | h | h
  · subst h; exact ⟨_, PySem.F.excBase_LookupError, PySem.F.store_LookupError⟩
  · subst h; exact ⟨_, PySem.F.excBase_TypeError, PySem.F.store_TypeError⟩
  · subst h; exact ⟨_, PySem.F.excBase_ValueError, PySem.F.store_ValueError⟩
  · subst h; exact ⟨_, PySem.F.excBase_RuntimeError, PySem.F.store_RuntimeError⟩
  · subst h; exact ⟨_, PySem.F.excBase_OverflowError, PySem.F.store_OverflowError⟩
def excF (C : Addr) (b : Bas) (a : Addr) (fs : List Str) : Hd.Fact := fun K => PySem.W.excInitIn K C b.mro b.newId && (PySem.W.excOver K C b.mro && (PySem.W.hasDictIn K C && (He.eqO (PySem.W.findIn K (.ref C) "__setattr__") (some (some (.builtin "object.__setattr__"))) &&
  (decide (PySem.W.subIn K (.ref C) (.type "BaseException") = some true) && (decide (PySem.W.typeIn K (.ref C) = some (.type "type")) && (PySem.W.keepIn K (.ref C) && (He.eqO (PySem.W.findIn K (.ref C) "__init__") (some (some (.ref a))) &&
  (decide (PySem.W.typeIn K (.ref a) = some (.type "function")) && (xfB K C && fs.all fun f => He.eqO (PySem.W.findIn K (.ref C) f) (some none))))))))))
/-- an own exception class, its __init__ at a -/
structure ExcT (K : PySem.W.Frag) (C a : Addr) (fs : List Str) : Prop where
  cls : ExCls K C
  init : PySem.W.findIn K (.ref C) "__init__" = some (some (.ref a))
  ty : PySem.W.typeIn K (.ref a) = some (.type "function")
  xf : XfC K C
  no : ∀ f ∈ fs, PySem.W.findIn K (.ref C) f = some none
theorem excF_ok {K : PySem.W.Frag} {C a : Addr} {b : Bas} {fs : List Str} (c : excF C b a fs K = true) (hb : b ∈ bases := by simp [Xb.bases]) : ExcT K C a fs := by
  obtain ⟨c1, c⟩ := He.ba c
  obtain ⟨c2, c⟩ := He.ba c
  obtain ⟨c3, c⟩ := He.ba c
  obtain ⟨c4, c⟩ := He.ba c
  obtain ⟨c5, c⟩ := He.ba c
  obtain ⟨c6, c⟩ := He.ba c
  obtain ⟨c7, c⟩ := He.ba c
  obtain ⟨c8, c⟩ := He.ba c
  obtain ⟨c9, c⟩ := He.ba c
  obtain ⟨c10, c11⟩ := He.ba c
  obtain ⟨initId, q1, q2⟩ := base_ok hb
  exact ⟨⟨⟨_, _, initId, _, q1, q2, c1, c2⟩, c3, He.eqO_ok c4, of_decide_eq_true c5, of_decide_eq_true c6, c7⟩, He.eqO_ok c8, of_decide_eq_true c9, xfB_ok c10, fun f hf => He.eqO_ok (List.all_eq_true.mp c11 f hf)⟩
def exmF (C D : Addr) (b : Bool) : Hd.Fact := fun K => decide (PySem.W.exmOne K (.ref C) (.ref D) = some b)
end Xb
set_option Elab.async false
set_option linter.all false
set_option maxRecDepth 100000
set_option maxHeartbeats 4000000
/-! Promises of defs by positional values, told of frames in which no repr runs; calls by values. -/
namespace Wl
open PySem PySem.Spec PyProof.Rows L2 StX
/-- the def at f keeps sp by at most k levels, wherever no guarded code runs -/
def FnG (P : Program) (w : World) (K : PySem.W.Frag) (mg : Str → Option Value) (base : Heap) (k : Nat) (f : Addr) (sp : Sp) : Prop :=
  ∀ (A : Around) (outer : List Env) (s : Shared) (H : Hp) (us : List Value) (vs : List V) (Q : VK) (E : XK), A.guards = some [] → Room k A → Env0 P w K mg base A outer s H → Vals vs us → sp vs H Q E →
    codeAny (model P w) A (.call (.ref f) ⟨us, []⟩) (CR (L2.CX P w) outer P w H s Q E) s
section
variable {P : Program} {w : World} {K : PySem.W.Frag} {mg : Str → Option Value} {base : Heap} {j k : Nat} {f : Addr} {sp sp' : Sp}
theorem FnG.mono (F : FnG P w K mg base j f sp) (h : j ≤ k) : FnG P w K mg base k f sp := fun A outer s H us vs Q E hg hr => F A outer s H us vs Q E hg (hr.mono h)
theorem FnG.imp (F : FnG P w K mg base k f sp) (h : ∀ vs H Q E, sp' vs H Q E → sp vs H Q E) : FnG P w K mg base k f sp' := fun A outer s H us vs Q E hg hr e0 r hs => F A outer s H us vs Q E hg hr e0 r (h _ _ _ _ hs)
theorem FnG.of {CX' : CXT} (F : FnR P w K mg base (L2.CX P w) k f sp) : FnG P w K mg base k f sp := fun A outer s H us vs Q E _ hr e0 r hs => F A outer s H us vs Q E hr e0 r hs
/-- THE RULE for a def: dvs fill up what is not given -/
theorem fnG_of {d : Hd.DA} {fd : FuncData} {N ps : List Str} {dvs : List V} (F : d.Fun K fd) (S : FnScope N ps d.scope) (bnd : ∃ ds, Vals dvs ds ∧ Binds K fd ps ds) (len : ∀ vs H Q E, sp vs H Q E → (vs ++ dvs).length = ps.length)
    (hbody : ∀ (cdv : Value) (A : Around) (outer : List Env) (s : Shared) (H : Hp) (vs : List V) (Q : VK) (E : XK), A.guards = some [] → Room k (A.deeper (envOfC d.qual d.scope s.heap.objs.size d.a cdv)) → sp vs H Q E →
      ∃ t, PSs (cxOf (L2.CX P w) P w K mg base N d.qual d.scope d.a cdv A outer s H E) d.body t ∧ t { nx := fun _ H' => Q .non H', rt := Q } (start N (vs ++ dvs)) H) : FnG P w K mg base (k + 1) d.a sp := by
  intro A outer s H us vs Q E hg hr e0 r hs
  obtain ⟨ds, rd, hb⟩ := bnd
  obtain ⟨oc, od, dV, kV, doc, pm, an, cdv, ct, osl, rfl, lk, hcd, _, _⟩ := F.ex
  have r2 : Vals (vs ++ dvs) (us ++ ds) := r.append rd
  have hl : (vs ++ dvs).length = ps.length := len _ _ _ _ hs
  refine run_bnd (CX := L2.CX P w) lk hcd S hr e0 (G := fun xs H2 => xs = vs ++ dvs ∧ H2 = H) (fun A' Ex Q' h => ?_) fun s2 H2 xs ⟨ex, eH⟩ hr' => ?_
  · exact hb s us (e0.mod.kin.keeps fun b o e => (e0.bs b o e).1) (by rw [← r2.length]; exact hl) _ _ _ _ (h s H (vs ++ dvs) (us ++ ds) e0 Un.refl rfl (fun e s' z => z) r2 hl ⟨rfl, rfl⟩)
  · subst ex eH
    exact hbody cdv A outer s2 H2 vs Q E hg hr' hs
end
/-! ### calls by values -/
section
variable {X : Cx} {k : Nat} {f C : Addr} {sp : Sp} {E : XK} {x m : Str} {r : List V → Hp → VK → Prop} {e o : Expr} {es : List Expr} {ta : TE} {t : TA} {p pos apos : Pos}
theorem res_of {R : Result} {pins : List (Addr × Obj)} {σ : L2.St} {H : Hp} {s s' : Shared} {Q : VK} (hx : Passes (L2.CX X.prog X.w) X E) (I : Inv X pins σ H s) (hq : CR (L2.CX X.prog X.w) X.stack X.prog X.w H s Q E R s') :
    match R with | .ok (.ret v) => EP X pins σ Q v s' | .ok _ => False | .error e => X.xe e s' := by
  cases R with
  | error e => exact hx pins σ H s e s' I hq
  | ok fl =>
    cases fl with
    | ret u => exact I.after hq
    | next => exact False.elim hq
    | brk => exact False.elim hq
    | cont => exact False.elim hq
theorem FnG.callR (F : FnG X.prog X.w X.K X.mg X.base k f sp) (hg : X.A.guards = some []) (hr : Room k X.A) (hx : Passes (L2.CX X.prog X.w) X E) : CallR X (.ref f) (fun vs H Q => sp vs H Q E) :=
  fun pins s σ H xs us Q I rv h => wpAny_call (codeAny_mono (F X.A X.stack s H us xs Q E hg hr I.env0 rv h) fun R s' hq => by
    have z := res_of hx I hq
    cases R with
    | error e => exact z
    | ok fl => cases fl <;> exact z)
/-- f(e, ..), f() -/
theorem pe_gf (hc : CallR X (.ref f) r) (hg : Gl X x) (hm : X.mg x = some (.ref f)) (hk : PySem.W.keepIn X.K (.ref f) = true) (ha : PA X (e :: es) t) (hdb : (x == ("__debug__" : Str)) = false := by decide)
    (he : starEach (e :: es) X.env = (false, eval e X.env) :: starEach es X.env := by rfl) (hpl : (backTo pos (starEach es X.env)).any (·.1) = false := by rfl) : PE X (.Call (.Name x p) (e :: es) [] pos) (tCB r t) := by
  refine ⟨fun pins s σ H Q I h => wpAny_Call_Name_kw (ld_glob I hg hm ?_ hdb)⟩
  refine PySem.W.callWith_K (h₀ := X.base) I.ok.mod.kin hk (thn (ha.run pos pins s σ H _ I h) fun us s1 ⟨vs, H1, I1, rv, q⟩ => ⟨I1.kIn, ?_⟩) he hpl
  exact hc pins s1 σ H1 vs us Q I1 rv q
theorem pe_gf0 (hc : CallR X (.ref f) r) (hg : Gl X x) (hm : X.mg x = some (.ref f)) (hk : PySem.W.keepIn X.K (.ref f) = true) (hdb : (x == ("__debug__" : Str)) = false := by decide) : PE X (.Call (.Name x p) [] [] pos) (tCB r tNil) :=
  ⟨fun pins s σ H Q I h => wpAny_Call_Name_kw (ld_glob I hg hm (PySem.W.callWith_K0 I.kIn hk (hc pins s σ H [] [] Q I .nil h)) hdb)⟩
/-- o.m(e, ..), o.m() -/
def tMt (C : Addr) (m : Str) (r : List V → Hp → VK → Prop) (ta : TE) (t : TA) : TE := fun σ H Q => ta σ H fun x H1 => ∃ a dx fs, x = .ref a ∧ H1 a = some (.ins C dx fs) ∧ fs.lookup m = none ∧ t σ H1 fun vs H2 => r (x :: vs) H2 Q
theorem pe_mt {pl : Sem Bool} (he : PE X o ta) (c : Cls X.K C) (hm : Meth X.K C m f) (hc : CallR X (.ref f) r) (ha : PA X (e :: es) t)
    (hst : starEach (e :: es) X.env = (false, eval e X.env) :: starEach es X.env := by rfl) (hpl : (backTo pos (starEach es X.env)).any (·.1) = false := by rfl)
    (ht : eval (.Call (.Attribute o m apos) (e :: es) [] pos) X.env = (do
      let ov ← eval o X.env
      standAt apos.atName
      let (f, first) ← holding [ov] (getMethod ov m pl)
      callWith pos f first (backTo pos (starEach (e :: es) X.env)) (backToKw pos (keywordEach [] X.env))) := by rfl) :
    PE X (.Call (.Attribute o m apos) (e :: es) [] pos) (tMt C m r ta t) := by
  refine ⟨fun pins s σ H Q I h => PySem.W.methodCall_KW (pl := pl) (thn (he.run pins s σ H _ I h) fun u s1 ⟨x, H1, I1, rx, a, dx, fs, ex, ea, l, q⟩ => ?_) ht⟩
  subst ex
  obtain rfl : u = Value.ref a := rx
  refine getmeth_ok I1 ea c hm l (PySem.W.callWith_K (first := [.ref a]) (h₀ := X.base) I.ok.mod.kin hm.kp (thn (ha.run pos pins s1 σ H1 _ I1 q) fun us s2 ⟨vs, H2, I2, rv, q2⟩ => ⟨I2.kIn, ?_⟩) hst hpl)
  exact hc pins s2 σ H2 (.ref a :: vs) (.ref a :: us) Q I2 (.cons rfl rv) q2
theorem pe_mt0 {pl : Sem Bool} (he : PE X o ta) (c : Cls X.K C) (hm : Meth X.K C m f) (hc : CallR X (.ref f) r)
    (ht : eval (.Call (.Attribute o m apos) [] [] pos) X.env = (do
      let ov ← eval o X.env
      standAt apos.atName
      let (f, first) ← holding [ov] (getMethod ov m pl)
      callWith pos f first (backTo pos (starEach [] X.env)) (backToKw pos (keywordEach [] X.env))) := by rfl) :
    PE X (.Call (.Attribute o m apos) [] [] pos) (tMt C m r ta tNil) := by
  refine ⟨fun pins s σ H Q I h => PySem.W.methodCall_KW (pl := pl) (thn (he.run pins s σ H _ I h) fun u s1 ⟨x, H1, I1, rx, a, dx, fs, ex, ea, l, q⟩ => ?_) ht⟩
  subst ex
  obtain rfl : u = Value.ref a := rx
  exact getmeth_ok I1 ea c hm l (PySem.W.callWith_K0 (first := [.ref a]) I1.kIn hm.kp (hc pins s1 σ H1 [.ref a] [.ref a] Q I1 (.cons rfl .nil) q))
/-! ### a new instance -/
theorem guards_under {A : Around} {us : List Value} {kw : List (Str × Value)} (hg : A.guards = some []) : (A.under (.builtin "type.__call__" ⟨.ref C :: us, kw⟩)).guards = some [] := by
  have e : (Code.builtin "type.__call__" ⟨.ref C :: us, kw⟩).guards = [] := by
    show (if Code.isGuard _ = true then _ else []) = []
    rw [if_neg (by simp [Code.isGuard, guardIds])]
  unfold Around.under
  dsimp only
  rw [e, hg]
  rfl
def rMk (C : Addr) (sp : Sp) (E : XK) : List V → Hp → VK → Prop := fun vs H Q => ∀ x dx, H x = none → H dx = none → dx ≠ x → sp (.ref x :: vs) (upd (upd H dx (.own x)) x (.ins C dx [])) (fun v H2 => v = .non ∧ Q (.ref x) H2) E
theorem FnG.makeR (M : Mk X.K C f) (F : FnG X.prog X.w X.K X.mg X.base k f sp) (hg : X.A.guards = some []) (hr : Room (k + 1) X.A) (hx : Passes (L2.CX X.prog X.w) X E) : CallR X (.ref C) (rMk C sp E) := by
  intro pins s σ H vs us Q I rv h
  have hq := h (s.heap.objs.size + 1) s.heap.objs.size (I.hok.fresh (Nat.le_succ _)) (I.hok.fresh (Nat.le_refl _)) (Nat.ne_of_lt (Nat.lt_succ_self _))
  have I2 := Inv.made (C := C) I
  refine wpAny_call (make_map (f := f) I.kIn M.makes M.init (beq_iff_eq.mp M.fn) (codeAny_mono (F _ X.stack _ _ (Value.ref (s.heap.objs.size + 1) :: us) _ _ E (guards_under hg) (hr.make C us []) (I2.env0.make C us []) (.cons (show RelV (V.ref (s.heap.objs.size + 1)) _ from rfl) rv) hq) fun R s' hq' => ?_))
  cases R with
  | error e => exact hx pins σ _ _ e s' I2 hq'
  | ok fl =>
    cases fl with
    | ret u =>
      obtain ⟨v, H', I3, r3, ev, q3⟩ := I2.after hq'
      subst ev
      exact ⟨r3, ⟨V.ref (s.heap.objs.size + 1), H', I3, rfl, q3⟩⟩
    | next => exact False.elim hq'
    | brk => exact False.elim hq'
    | cont => exact False.elim hq'
/-! ### repr of data -/
theorem call_repr (hg : X.A.guards = some []) (hu : X.A.units + 70 < cLine) : CallR X (.builtin "repr") (fun xs H Q => ∃ a d, xs = [.ref a] ∧ Dp X.K H (.ref a) d ∧ d.showable = true ∧ d.hasDict = false ∧ d.depth ≤ 60 ∧ d.shown.length ≤ sizeLine ∧ Q (.str d.shown) H) := by
  intro pins s σ H xs us Q I rv ⟨a, d, ex, hd, hs, hh, hdp, hz, q⟩
  subst ex
  obtain ⟨u, rfl, r1⟩ := vals1 rv
  obtain ⟨as, hr⟩ := Dp.reads I d (.ref a) u hd r1
  obtain rfl : u = Value.ref a := r1
  refine repr_of_reads' hr hs (fun z => by rw [hh] at z; cases z) hg (by omega) (fun _ _ e => e) (fun h' u tk hk => ?_) hz
  exact ⟨.str d.shown, H, I.kept (t' := tk) hk, ⟨u, rfl⟩, q⟩
end
end Wl
set_option Elab.async false
set_option linter.all false
set_option maxRecDepth 100000
set_option maxHeartbeats 4000000
/-! Small helpers over the layer: types of data, isinstance of data, globals, passing on. -/
namespace Wl
open PySem PySem.Spec PyProof.Rows L2
/-- the name of a datum's type -/
def tyN : PyData → String
  | .none => "NoneType"
  | .bool _ => "bool"
  | .int _ => "int"
  | .str _ => "str"
  | .list _ => "list"
  | .tuple _ => "tuple"
  | .dict _ => "dict"
theorem dp_ty {K : PySem.W.Frag} {H : Hp} {v : V} {d : PyData} (h : Dp K H v d) : TyX K H v (.type (tyN d)) := by
  cases h with
  | non => exact .base .non
  | bl b => exact .base (.bl b)
  | int i => exact .base (.int i)
  | str x => exact .base (.str x)
  | lst hs _ =>
    rcases hs with (e | ⟨o, e⟩) | ⟨o, its, n, e, c, _⟩
    · exact .base (.lst e)
    · exact .base (.frz e)
    · exact .kList e c
  | tup hs _ =>
    rcases hs with (e | ⟨o, e⟩) | ⟨o, its, n, e, c, _⟩
    · exact .base (.tup e)
    · exact .fTuple e
    · exact .kTuple e c
/-- isinstance of a datum and a built-in type -/
def isB (T : String) (d : PyData) : Bool := (kitB (tyN d) T).getD false
theorem isi_of {K : PySem.W.Frag} {H : Hp} {v : V} {d : PyData} {T : String} {Q : VK} (h : Dp K H v d) (hT : (kitB (tyN d) T).isSome = true) (q : Q (.bl (isB T d)) H) : rIsi K [v, .ty T] H Q := by
  obtain ⟨b, hb⟩ := Option.isSome_iff_exists.mp hT
  have e : isB T d = b := by unfold isB; rw [hb]; rfl
  rw [e] at q
  exact ⟨v, .ty T, .type (tyN d), .type T, b, rfl, .ty T, dp_ty h, kit_ty hb, q⟩
def tys7 : List String := ["NoneType", "bool", "int", "str", "list", "tuple", "dict"]
def tys5 : List String := ["int", "bool", "str", "tuple", "list"]
theorem tyN_mem (d : PyData) : tyN d ∈ tys7 := by cases d <;> simp [tyN, tys7]
theorem kit75 : (tys7.all fun t => tys5.all fun T => (kitB t T).isSome) = true := by decide +kernel
theorem kitT (d : PyData) {T : String} (h : T ∈ tys5) : (kitB (tyN d) T).isSome = true := List.all_eq_true.mp (List.all_eq_true.mp kit75 _ (tyN_mem d)) T h
def is_int : PyData → Bool
  | .bool _ => true
  | .int _ => true
  | _ => false
theorem isB_int : ∀ d : PyData, isB "int" d = is_int d
  | .none => by
    show (kitB "NoneType" "int").getD false = false
    decide +kernel
  | .bool _ => by
    show (kitB "bool" "int").getD false = true
    decide +kernel
  | .int _ => by
    show (kitB "int" "int").getD false = true
    decide +kernel
  | .str _ => by
    show (kitB "str" "int").getD false = false
    decide +kernel
  | .list _ => by
    show (kitB "list" "int").getD false = false
    decide +kernel
  | .tuple _ => by
    show (kitB "tuple" "int").getD false = false
    decide +kernel
  | .dict _ => by
    show (kitB "dict" "int").getD false = false
    decide +kernel
theorem isi_int {K : PySem.W.Frag} {H : Hp} {v : V} {d : PyData} {Q : VK} (h : Dp K H v d) (q : Q (.bl (is_int d)) H) : rIsi K [v, .ty "int"] H Q := isi_of h (kitT d (by decide)) (by rw [isB_int]; exact q)
def is_bool : PyData → Bool
  | .bool _ => true
  | _ => false
theorem isB_bool : ∀ d : PyData, isB "bool" d = is_bool d
  | .none => by
    show (kitB "NoneType" "bool").getD false = false
    decide +kernel
  | .bool _ => by
    show (kitB "bool" "bool").getD false = true
    decide +kernel
  | .int _ => by
    show (kitB "int" "bool").getD false = false
    decide +kernel
  | .str _ => by
    show (kitB "str" "bool").getD false = false
    decide +kernel
  | .list _ => by
    show (kitB "list" "bool").getD false = false
    decide +kernel
  | .tuple _ => by
    show (kitB "tuple" "bool").getD false = false
    decide +kernel
  | .dict _ => by
    show (kitB "dict" "bool").getD false = false
    decide +kernel
theorem isi_bool {K : PySem.W.Frag} {H : Hp} {v : V} {d : PyData} {Q : VK} (h : Dp K H v d) (q : Q (.bl (is_bool d)) H) : rIsi K [v, .ty "bool"] H Q := isi_of h (kitT d (by decide)) (by rw [isB_bool]; exact q)
def is_str : PyData → Bool
  | .str _ => true
  | _ => false
theorem isB_str : ∀ d : PyData, isB "str" d = is_str d
  | .none => by
    show (kitB "NoneType" "str").getD false = false
    decide +kernel
  | .bool _ => by
    show (kitB "bool" "str").getD false = false
    decide +kernel
  | .int _ => by
    show (kitB "int" "str").getD false = false
    decide +kernel
  | .str _ => by
    show (kitB "str" "str").getD false = true
    decide +kernel
  | .list _ => by
    show (kitB "list" "str").getD false = false
    decide +kernel
  | .tuple _ => by
    show (kitB "tuple" "str").getD false = false
    decide +kernel
  | .dict _ => by
    show (kitB "dict" "str").getD false = false
    decide +kernel
theorem isi_str {K : PySem.W.Frag} {H : Hp} {v : V} {d : PyData} {Q : VK} (h : Dp K H v d) (q : Q (.bl (is_str d)) H) : rIsi K [v, .ty "str"] H Q := isi_of h (kitT d (by decide)) (by rw [isB_str]; exact q)
def is_tuple : PyData → Bool
  | .tuple _ => true
  | _ => false
theorem isB_tuple : ∀ d : PyData, isB "tuple" d = is_tuple d
  | .none => by
    show (kitB "NoneType" "tuple").getD false = false
    decide +kernel
  | .bool _ => by
    show (kitB "bool" "tuple").getD false = false
    decide +kernel
  | .int _ => by
    show (kitB "int" "tuple").getD false = false
    decide +kernel
  | .str _ => by
    show (kitB "str" "tuple").getD false = false
    decide +kernel
  | .list _ => by
    show (kitB "list" "tuple").getD false = false
    decide +kernel
  | .tuple _ => by
    show (kitB "tuple" "tuple").getD false = true
    decide +kernel
  | .dict _ => by
    show (kitB "dict" "tuple").getD false = false
    decide +kernel
theorem isi_tuple {K : PySem.W.Frag} {H : Hp} {v : V} {d : PyData} {Q : VK} (h : Dp K H v d) (q : Q (.bl (is_tuple d)) H) : rIsi K [v, .ty "tuple"] H Q := isi_of h (kitT d (by decide)) (by rw [isB_tuple]; exact q)
def is_list : PyData → Bool
  | .list _ => true
  | _ => false
theorem isB_list : ∀ d : PyData, isB "list" d = is_list d
  | .none => by
    show (kitB "NoneType" "list").getD false = false
    decide +kernel
  | .bool _ => by
    show (kitB "bool" "list").getD false = false
    decide +kernel
  | .int _ => by
    show (kitB "int" "list").getD false = false
    decide +kernel
  | .str _ => by
    show (kitB "str" "list").getD false = false
    decide +kernel
  | .list _ => by
    show (kitB "list" "list").getD false = true
    decide +kernel
  | .tuple _ => by
    show (kitB "tuple" "list").getD false = false
    decide +kernel
  | .dict _ => by
    show (kitB "dict" "list").getD false = false
    decide +kernel
theorem isi_list {K : PySem.W.Frag} {H : Hp} {v : V} {d : PyData} {Q : VK} (h : Dp K H v d) (q : Q (.bl (is_list d)) H) : rIsi K [v, .ty "list"] H Q := isi_of h (kitT d (by decide)) (by rw [isB_list]; exact q)
section
variable {X : Cx} {x : Str} {pos : Pos}
/-- a module's int, text -/
theorem pgi {i : Int} (h : ∃ t, X.mg x = some (.int i t)) (hg : Gl X x) (hd : (x == ("__debug__" : Str)) = false := by decide) : PE X (.Name x pos) (tC (.int i)) := by
  obtain ⟨t, e⟩ := h
  exact pe_glob hg e ⟨t, rfl⟩ hd
theorem pgs {z : Str} (h : ∃ t, X.mg x = some (.str z t)) (hg : Gl X x) (hd : (x == ("__debug__" : Str)) = false := by decide) : PE X (.Name x pos) (tC (.str z)) := by
  obtain ⟨t, e⟩ := h
  exact pe_glob hg e ⟨t, rfl⟩ hd
/-- an object of the module: a class, a tuple -/
theorem pgr {a : Addr} (h : X.mg x = some (.ref a)) (hg : Gl X x) (hd : (x == ("__debug__" : Str)) = false := by decide) : PE X (.Name x pos) (tC (.ref a)) := pe_glob hg h rfl hd
end
theorem bt_len : bootBuiltins ("len" : Str) = some (.builtin "len") := by decide +kernel
theorem bt_isinstance : bootBuiltins ("isinstance" : Str) = some (.builtin "isinstance") := by decide +kernel
theorem bt_sorted : bootBuiltins ("sorted" : Str) = some (.builtin "sorted") := by decide +kernel
theorem bt_min : bootBuiltins ("min" : Str) = some (.builtin "min") := by decide +kernel
theorem bt_max : bootBuiltins ("max" : Str) = some (.builtin "max") := by decide +kernel
theorem bt_abs : bootBuiltins ("abs" : Str) = some (.builtin "abs") := by decide +kernel
theorem bt_any : bootBuiltins ("any" : Str) = some (.builtin "any") := by decide +kernel
theorem bt_all : bootBuiltins ("all" : Str) = some (.builtin "all") := by decide +kernel
theorem bt_repr : bootBuiltins ("repr" : Str) = some (.builtin "repr") := by decide +kernel
theorem bt_sum : bootBuiltins ("sum" : Str) = some (.builtin "sum") := by decide +kernel
theorem bt_int : bootBuiltins ("int" : Str) = some (.type "int") := by decide +kernel
theorem bt_bool : bootBuiltins ("bool" : Str) = some (.type "bool") := by decide +kernel
theorem bt_str : bootBuiltins ("str" : Str) = some (.type "str") := by decide +kernel
theorem bt_tuple : bootBuiltins ("tuple" : Str) = some (.type "tuple") := by decide +kernel
theorem bt_list : bootBuiltins ("list" : Str) = some (.type "list") := by decide +kernel
theorem bt_dict : bootBuiltins ("dict" : Str) = some (.type "dict") := by decide +kernel
theorem bt_range : bootBuiltins ("range" : Str) = some (.type "range") := by decide +kernel
theorem bt_enumerate : bootBuiltins ("enumerate" : Str) = some (.type "enumerate") := by decide +kernel
theorem bt_zip : bootBuiltins ("zip" : Str) = some (.type "zip") := by decide +kernel
theorem bt_set : bootBuiltins ("set" : Str) = some (.type "set") := by decide +kernel
section
variable {X : Cx} {x : Str} {pos p1 p2 : Pos} {e : Expr} {te : TE}
/-- a built-in type as a value -/
theorem pgt {n : String} (hm : X.mg x = none) (hv : bootBuiltins x = some (.type n)) (hg : Gl X x) (hn : x ≠ "__name__" := by decide) (hd : (x == ("__debug__" : Str)) = false := by decide) : PE X (.Name x pos) (tC (.ty n)) := pe_bltn (v := V.ty n) hg hm hv rfl hn hd
/-- isinstance(e, T) of data -/
def rIsD (K : PySem.W.Frag) (T : String) (p : PyData → Bool) : List V → Hp → VK → Prop := fun xs H Q => ∃ v d, xs = [v, .ty T] ∧ Dp K H v d ∧ Q (.bl (p d)) H
theorem ci_int : CallR X (.builtin "isinstance") (rIsD X.K "int" is_int) := fun pins s σ H xs us Q I r h => by
  obtain ⟨v, d, rfl, hd, q⟩ := h
  exact call_isi pins s σ H _ us Q I r (isi_int hd q)
theorem ci_bool : CallR X (.builtin "isinstance") (rIsD X.K "bool" is_bool) := fun pins s σ H xs us Q I r h => by
  obtain ⟨v, d, rfl, hd, q⟩ := h
  exact call_isi pins s σ H _ us Q I r (isi_bool hd q)
theorem ci_str : CallR X (.builtin "isinstance") (rIsD X.K "str" is_str) := fun pins s σ H xs us Q I r h => by
  obtain ⟨v, d, rfl, hd, q⟩ := h
  exact call_isi pins s σ H _ us Q I r (isi_str hd q)
theorem ci_tuple : CallR X (.builtin "isinstance") (rIsD X.K "tuple" is_tuple) := fun pins s σ H xs us Q I r h => by
  obtain ⟨v, d, rfl, hd, q⟩ := h
  exact call_isi pins s σ H _ us Q I r (isi_tuple hd q)
theorem ci_list : CallR X (.builtin "isinstance") (rIsD X.K "list" is_list) := fun pins s σ H xs us Q I r h => by
  obtain ⟨v, d, rfl, hd, q⟩ := h
  exact call_isi pins s σ H _ us Q I r (isi_list hd q)
end
/-- what a callee lets out, the caller lets out -/
theorem pass {P : Program} {w : World} {K : PySem.W.Frag} {mg : Str → Option Value} {base : Heap} {N : List Str} {q : Str} {sc : Scope} {f : Addr} {cd : Value} {A : Around} {outer : List Env} {s : Shared} {H : Hp} {E : XK} :
    Passes (L2.CX P w) (cxOf (L2.CX P w) P w K mg base N q sc f cd A outer s H E) E := passes_call (takes_of rfl rfl rfl rfl) fun _ _ _ _ h => h
end Wl
set_option Elab.async false
set_option linter.all false
set_option maxRecDepth 100000
set_option maxHeartbeats 4000000
/-! Promises of defs by bound arguments, told of frames in which no repr runs. -/
namespace Wl
open PySem PySem.Spec PyProof.Rows L2 StX
theorem room_u1 {k : Nat} {A : Around} (r : Room k A) : A.units + 1 < cLine := by have := r.un; omega
theorem room_u0 {k : Nat} {A : Around} (r : Room k A) : A.units < cLine := by have := r.un; omega
theorem room_u70 {k : Nat} {A : Around} (r : Room k A) : A.units + 70 < cLine := by have := r.un; omega
structure FnK (P : Program) (w : World) (K : PySem.W.Frag) (mg : Str → Option Value) (base : Heap) (k : Nat) (f : Addr) (fd : FuncData) (ps : List Str) (sp : Sp) : Prop where
  len : ∀ vs H Q E, sp vs H Q E → vs.length = ps.length
  run : ∀ (A : Around) (outer : List Env) (s : Shared) (H : Hp) (args : Args) (us : List Value) (vs : List V) (Q : VK) (E : XK), A.guards = some [] → Room k A → Env0 P w K mg base A outer s H → BindsTo s fd args (ps.zip us) → Vals vs us → sp vs H Q E →
    codeAny (model P w) A (.call (.ref f) args) (CR (L2.CX P w) outer P w H s Q E) s
section
variable {P : Program} {w : World} {K : PySem.W.Frag} {mg : Str → Option Value} {base : Heap} {j k : Nat} {f : Addr} {fd : FuncData} {ps : List Str} {sp sp' : Sp}
theorem FnK.mono (F : FnK P w K mg base j f fd ps sp) (h : j ≤ k) : FnK P w K mg base k f fd ps sp := ⟨F.len, fun A outer s H args us vs Q E hg hr => F.run A outer s H args us vs Q E hg (hr.mono h)⟩
theorem FnK.imp (F : FnK P w K mg base k f fd ps sp) (h : ∀ vs H Q E, sp' vs H Q E → sp vs H Q E) : FnK P w K mg base k f fd ps sp' := ⟨fun vs H Q E q => F.len _ _ _ _ (h _ _ _ _ q), fun A outer s H args us vs Q E hg hr e0 b r hs => F.run A outer s H args us vs Q E hg hr e0 b r (h _ _ _ _ hs)⟩
theorem fnK_of {d : Hd.DA} {N : List Str} (F : d.Fun K fd) (S : FnScope N ps d.scope) (len : ∀ vs H Q E, sp vs H Q E → vs.length = ps.length)
    (hbody : ∀ (cdv : Value) (A : Around) (outer : List Env) (s : Shared) (H : Hp) (vs : List V) (Q : VK) (E : XK), A.guards = some [] → Room k (A.deeper (envOfC d.qual d.scope s.heap.objs.size d.a cdv)) → sp vs H Q E →
      ∃ t, PSs (cxOf (L2.CX P w) P w K mg base N d.qual d.scope d.a cdv A outer s H E) d.body t ∧ t { nx := fun _ H' => Q .non H', rt := Q } (start N vs) H) : FnK P w K mg base (k + 1) d.a fd ps sp := by
  refine ⟨len, fun A outer s H args us vs Q E hg hr e0 hb r hs => ?_⟩
  obtain ⟨oc, od, dV, kV, doc, pm, an, cdv, ct, osl, rfl, lk, hcd, _, _⟩ := F.ex
  have hl : vs.length = ps.length := len _ _ _ _ hs
  refine run_bnd (CX := L2.CX P w) lk hcd S hr e0 (G := fun xs H2 => xs = vs ∧ H2 = H) (fun A' Ex Q' h => ?_) fun s2 H2 xs ⟨ex, eH⟩ hr' => ?_
  · exact hb _ _ _ _ (h s H vs us e0 Un.refl rfl (fun e s' z => z) r hl ⟨rfl, rfl⟩)
  · subst ex eH
    exact hbody cdv A outer s2 H2 xs Q E hg hr' hs
theorem FnK.toG (F : FnK P w K mg base k f fd ps sp) {dvs : List V} (hb : ∃ ds, Vals dvs ds ∧ Binds K fd ps ds) : FnG P w K mg base k f (fun vs H Q E => sp (vs ++ dvs) H Q E) := by
  intro A outer s H us vs Q E hg hr e0 r hs
  obtain ⟨ds, rd, hb⟩ := hb
  have r2 : Vals (vs ++ dvs) (us ++ ds) := r.append rd
  refine F.run A outer s H _ (us ++ ds) (vs ++ dvs) Q E hg hr e0 (hb s us (e0.mod.kin.keeps fun b o e => (e0.bs b o e).1) ?_) r2 hs
  rw [← r2.length]
  exact F.len _ _ _ _ hs
end
theorem guards_make {A : Around} {C : Addr} {us : List Value} {kw : List (Str × Value)} (hg : A.guards = some []) : (A.under (.builtin "type.__call__" ⟨.ref C :: us, kw⟩)).guards = some [] := guards_under hg
section
variable {X : Cx} {k n : Nat} {f C : Addr} {fd : FuncData} {ps ks : List Str} {sp : Sp} {E : XK} {x m : Str} {p pos apos : Pos} {e o : Expr} {es : List Expr} {kws : List Keyword} {t tk : TA} {ta : TE} {g : List Value → List Value → List Value} {gV : List V → List V → List V}
theorem run_makeKG {pins : List (Addr × Obj)} {σ : L2.St} {H : Hp} {s : Shared} {Q : VK} {us ws : List Value} {vs zs : List V} (M : Mk X.K C f) (F : FnK X.prog X.w X.K X.mg X.base k f fd ps sp) (hgd : X.A.guards = some []) (hr : Room (k + 1) X.A) (hb : KBn X.K fd ps (n + 1) ks g gV) (hx : Passes (L2.CX X.prog X.w) X E)
    (I : Inv X pins σ H s) (r : Vals vs us) (rz : Vals zs ws) (l1 : vs.length = n) (l2 : zs.length = ks.length)
    (h : ∀ x dx, H x = none → H dx = none → dx ≠ x → sp (gV (.ref x :: vs) zs) (upd (upd H dx (.own x)) x (.ins C dx [])) (fun v H2 => v = .non ∧ Q (.ref x) H2) E) :
    wpAny (model X.prog X.w) X.A (call (.ref C) us (ks.zip ws)) (EP X pins σ Q) X.xe s := by
  have hq := h (s.heap.objs.size + 1) s.heap.objs.size (I.hok.fresh (Nat.le_succ _)) (I.hok.fresh (Nat.le_refl _)) (Nat.ne_of_lt (Nat.lt_succ_self _))
  have I2 := Inv.made (C := C) I
  have r1 : Vals (V.ref (s.heap.objs.size + 1) :: vs) (Value.ref (s.heap.objs.size + 1) :: us) := .cons rfl r
  have r2 := hb.rel r1 rz
  have n1 : (Value.ref (s.heap.objs.size + 1) :: us).length = n + 1 := by
    rw [List.length_cons, ← r.length, l1]
  refine wpAny_call (make_map (f := f) I.kIn M.makes M.init (beq_iff_eq.mp M.fn) (codeAny_mono (F.run _ X.stack _ _ ⟨Value.ref (s.heap.objs.size + 1) :: us, ks.zip ws⟩ (g (Value.ref (s.heap.objs.size + 1) :: us) ws) _ _ E (guards_make hgd) (hr.make C us (ks.zip ws))
    (I2.env0.make C us (ks.zip ws)) (hb.to _ (Value.ref (s.heap.objs.size + 1) :: us) ws I2.kIn n1 (rz.length.symm.trans l2)) r2 hq) fun r s' hq' => ?_))
  cases r with
  | error er => exact hx pins σ _ _ er s' I2 hq'
  | ok fl =>
    cases fl with
    | ret u =>
      obtain ⟨v, H', I3, rv, ev, q3⟩ := I2.after hq'
      subst ev
      exact ⟨rv, ⟨V.ref (s.heap.objs.size + 1), H', I3, rfl, q3⟩⟩
    | next => exact False.elim hq'
    | brk => exact False.elim hq'
    | cont => exact False.elim hq'
/-- C(k = v, ..) -/
theorem pe_mkK0 (M : Mk X.K C f) (F : FnK X.prog X.w X.K X.mg X.base k f fd ps sp) (hgd : X.A.guards = some []) (hr : Room (k + 1) X.A) (hg : Gl X x) (hm : X.mg x = some (.ref C)) (hb : KBn X.K fd ps 1 ks g gV) (hx : Passes (L2.CX X.prog X.w) X E) (hkw : PK X kws tk)
    (hall : (backToKw pos (keywordEach kws X.env)).all (·.1.isSome) = true := by rfl) (hks : (backToKw pos (keywordEach kws X.env)).filterMap (·.1) = ks := by rfl) (hdb : (x == ("__debug__" : Str)) = false := by decide)
    (hpl : ((backTo pos (starEach [] X.env)).any (·.1) || (backToKw pos (keywordEach kws X.env)).any (·.1.isNone)) = false := by rfl) :
    PE X (.Call (.Name x p) [] kws pos) (tMakeK C 0 ks.length sp gV E tNil tk) := by
  refine ⟨fun pins s σ H Q I h => ?_⟩
  refine wpAny_Call_Name_kw (ld_glob I hg hm ?_ hdb)
  refine PySem.W.callWith_KW0 (h₀ := X.base) I.ok.mod.kin M.kp hall ?_ hpl
  refine thn (hkw.run pos pins s σ H _ I h) fun ws s2 ⟨zs, H2, I2, rz, l1, l2, q2⟩ => ⟨I2.kIn, ?_⟩
  rw [hks]
  exact run_makeKG (us := []) (vs := []) M F hgd hr hb hx I2 .nil rz rfl l2 q2
/-- C(e, ..), C() by a promise of positional values -/
theorem pe_new (hc : CallR X (.ref C) (rMk C sp E)) (hk : PySem.W.keepIn X.K (.ref C) = true) (hg : Gl X x) (hm : X.mg x = some (.ref C)) (ha : PA X (e :: es) t) (hdb : (x == ("__debug__" : Str)) = false := by decide)
    (he : starEach (e :: es) X.env = (false, eval e X.env) :: starEach es X.env := by rfl) (hpl : (backTo pos (starEach es X.env)).any (·.1) = false := by rfl) : PE X (.Call (.Name x p) (e :: es) [] pos) (tCB (rMk C sp E) t) := pe_gf hc hg hm hk ha hdb he hpl
theorem pe_new0 (hc : CallR X (.ref C) (rMk C sp E)) (hk : PySem.W.keepIn X.K (.ref C) = true) (hg : Gl X x) (hm : X.mg x = some (.ref C)) (hdb : (x == ("__debug__" : Str)) = false := by decide) : PE X (.Call (.Name x p) [] [] pos) (tCB (rMk C sp E) tNil) := pe_gf0 hc hg hm hk hdb
end
end Wl
set_option Elab.async false
set_option linter.all false
set_option maxRecDepth 100000
set_option maxHeartbeats 4000000
/-! Data that stays: a part R of the heap that no one changes, and the cells that change. -/
namespace Wl
open PySem PySem.Spec PyProof.Rows L2
variable {K : PySem.W.Frag}
theorem sqt_same {H H' : Hp} {a : Addr} {xs : List V} (e : L2.Same H H') (h : SqT K H a xs) : SqT K H' a xs :=
  h.elim (fun h => .inl (h.elim (fun h => .inl (e _ _ h)) fun ⟨o, h⟩ => .inr ⟨o, e _ _ h⟩)) fun h => .inr h
mutual
theorem dp_same {H H' : Hp} (e : L2.Same H H') : ∀ {d : PyData} {v : V}, Dp K H v d → Dp K H' v d
  | _, _, .non => .non
  | _, _, .bl b => .bl b
  | _, _, .int i => .int i
  | _, _, .str x => .str x
  | _, _, .lst h t => .lst (e.seq h) (dpAll_same e t)
  | _, _, .tup h t => .tup (sqt_same e h) (dpAll_same e t)
theorem dpAll_same {H H' : Hp} (e : L2.Same H H') : ∀ {ds : List PyData} {vs : List V}, DpAll K H vs ds → DpAll K H' vs ds
  | _, _, .nil => .nil
  | _, _, .cons h t => .cons (dp_same e h) (dpAll_same e t)
end
theorem same_new {H H' : Hp} {a : Addr} {o : HO} (e : L2.Same H H') (h : H' a = none) : L2.Same H (upd H' a o) := fun b p q => by
  have q' := e b p q
  by_cases z : b = a
  · subst z
    rw [h] at q'
    cases q'
  · rw [upd_ne z]
    exact q'
theorem same_up {H H' : Hp} {a : Addr} {o : HO} (e : L2.Same H H') (h : H a = none) : L2.Same H (upd H' a o) := fun b p q => by
  by_cases z : b = a
  · subst z
    rw [h] at q
    cases q
  · rw [upd_ne z]
    exact e b p q
theorem same_upd {H H' : Hp} {a : Addr} {o : HO} (e : L2.Same H H') : L2.Same (upd H a o) (upd H' a o) := fun b p q => by
  by_cases z : b = a
  · subst z
    rw [upd_same] at q ⊢
    exact q
  · rw [upd_ne z] at q ⊢
    exact e b p q
theorem dpAll_get {H : Hp} : ∀ {xs : List V} {ds : List PyData} {i : Nat} {x : V}, DpAll K H xs ds → xs[i]? = some x → ∃ d, ds[i]? = some d ∧ Dp K H x d
  | _, _, i, x, .nil, h => by simp at h
  | _, _, 0, x, .cons (d := d) a _, h => ⟨d, rfl, by
      obtain rfl := Option.some.inj h
      exact a⟩
  | _, _, i + 1, x, .cons _ t, h => dpAll_get (i := i) t h
theorem dpAll_length {H : Hp} : ∀ {xs : List V} {ds : List PyData}, DpAll K H xs ds → xs.length = ds.length
  | _, _, .nil => rfl
  | _, _, .cons _ t => congrArg Nat.succ (dpAll_length t)
theorem dpAll_append {H : Hp} : ∀ {xs : List V} {ds : List PyData} {ys : List V} {es : List PyData}, DpAll K H xs ds → DpAll K H ys es → DpAll K H (xs ++ ys) (ds ++ es)
  | _, _, _, _, .nil, h => h
  | _, _, _, _, .cons a t, h => .cons a (dpAll_append t h)
theorem dpAll_snoc {H : Hp} {xs : List V} {ds : List PyData} {y : V} {e : PyData} (h : DpAll K H xs ds) (q : Dp K H y e) : DpAll K H (xs ++ [y]) (ds ++ [e]) := dpAll_append h (.cons q .nil)
/-- R grows to R', H to H': all but the cells in L stays as it was, R' holds nothing that stood in H outside R -/
structure Grow (L : List Addr) (R H R' H' : Hp) : Prop where
  same : L2.Same R R'
  sub : L2.Same R' H'
  keep : ∀ b o, b ∉ L → H b = some o → H' b = some o
  live : ∀ b, H b ≠ none → H' b ≠ none
  new : ∀ b, H b ≠ none → R b = none → R' b = none
section
variable {L : List Addr} {R H R1 H1 R2 H2 : Hp} {a : Addr} {o : HO}
theorem Grow.refl (h : L2.Same R H) : Grow L R H R H := ⟨L2.Same.refl _, h, fun _ _ _ q => q, fun _ q => q, fun _ _ q => q⟩
theorem Grow.trans (g : Grow L R H R1 H1) (g' : Grow L R1 H1 R2 H2) : Grow L R H R2 H2 :=
  ⟨g.same.trans g'.same, g'.sub, fun b o hb q => g'.keep b o hb (g.keep b o hb q), fun b q => g'.live b (g.live b q), fun b q r => g'.new b (g.live b q) (g.new b q r)⟩
theorem Grow.mono {L' : List Addr} (g : Grow L R H R1 H1) (h : ∀ x ∈ L, x ∈ L') : Grow L' R H R1 H1 := ⟨g.same, g.sub, fun b o hb q => g.keep b o (fun z => hb (h b z)) q, g.live, g.new⟩
theorem Grow.none (g : Grow L R H R1 H1) (h : H1 a = none) : H a = none := by
  cases e : H a with
  | none => rfl
  | some o => exact absurd h (g.live a (by rw [e]; exact fun z => nomatch z))
theorem Grow.rnone (g : Grow L R H R1 H1) (h : H1 a = Option.none) : R1 a = Option.none := by
  cases e : R1 a with
  | none => rfl
  | some o => rw [g.sub a o e] at h; cases h
/-- a cell that was there and is not in L -/
theorem Grow.cell (g : Grow L R H R1 H1) (h : H a = some o) (hl : a ∉ L) : H1 a = some o := g.keep a o hl h
theorem Grow.rcell (g : Grow L R H R1 H1) (h : H a = some o) (hr : R a = Option.none) : R1 a = Option.none := g.new a (by rw [h]; exact fun z => nomatch z) hr
/-- a new object that stays -/
theorem Grow.add (g : Grow L R H R1 H1) (h : H1 a = Option.none) : Grow L R H (upd R1 a o) (upd H1 a o) :=
  ⟨same_new g.same (g.rnone h), same_upd g.sub, fun b p hb q => same_new (L2.Same.refl _) h _ _ (g.keep b p hb q), fun b q => by
      by_cases z : b = a
      · rw [z, upd_same]
        exact fun z => nomatch z
      · rw [upd_ne z]
        exact g.live b q, fun b q r => by
      have z : b ≠ a := fun z => by
        rw [z] at q
        exact q (g.none h)
      rw [upd_ne z]
      exact g.new b q r⟩
/-- a new cell that changes -/
theorem Grow.cellN (g : Grow L R H R1 H1) (h : H1 a = Option.none) : Grow L R H R1 (upd H1 a o) :=
  ⟨g.same, same_new g.sub h, fun b p hb q => same_new (L2.Same.refl _) h _ _ (g.keep b p hb q), fun b q => by
      by_cases z : b = a
      · rw [z, upd_same]
        exact fun z => nomatch z
      · rw [upd_ne z]
        exact g.live b q, g.new⟩
/-- a cell of L, or one that is new since H, changes -/
theorem Grow.set (g : Grow L R H R1 H1) (h : R1 a = Option.none) (hl : a ∈ L ∨ H a = Option.none) : Grow L R H R1 (upd H1 a o) :=
  ⟨g.same, same_up g.sub h, fun b p hb q => by
      by_cases z : b = a
      · subst z
        rcases hl with hl | hl
        · exact absurd hl hb
        · rw [hl] at q
          cases q
      · rw [upd_ne z]
        exact g.keep b p hb q, fun b q => by
      by_cases z : b = a
      · rw [z, upd_same]
        exact fun z => nomatch z
      · rw [upd_ne z]
        exact g.live b q, g.new⟩
/-- a cell that is new since H stays from now on -/
theorem Grow.freeze (g : Grow L R H R1 H1) (h : H a = Option.none) (q : H1 a = some o) (r : R1 a = Option.none) : Grow L R H (upd R1 a o) H1 :=
  ⟨same_new g.same r, fun b p e => by
      by_cases z : b = a
      · subst z
        rw [upd_same] at e
        rw [q, e]
      · rw [upd_ne z] at e
        exact g.sub b p e, g.keep, g.live, fun b q' r' => by
      have z : b ≠ a := fun z => by
        rw [z] at q'
        exact q' h
      rw [upd_ne z]
      exact g.new b q' r'⟩
/-- a cell that is new since H need not be told -/
theorem Grow.drop {c : Addr} (g : Grow (c :: L) R H R1 H1) (h : H c = Option.none) : Grow L R H R1 H1 :=
  ⟨g.same, g.sub, fun b p hb q => g.keep b p (fun z => (List.mem_cons.mp z).elim (fun z => by rw [z, h] at q; cases q) hb) q, g.live, g.new⟩
end
end Wl
set_option Elab.async false
set_option linter.all false
set_option maxRecDepth 100000
set_option maxHeartbeats 4000000
/-! isinstance of a caught error with fields -/
namespace Wl
open PySem PySem.Spec PySem.Calls PySem.W PyProof.Rows
section
variable {prog : Program} {w : World} {A : Around} {E : Value → Shared → Prop} {s : Shared} {K : Frag} {y D : Addr} {oy : Obj} {od : Option Obj}
theorem fo_data {a g : Value} {nm : Str} (h1 : (clsIn K D).isSome = true) (h2 : findIn K (.ref D) nm = some (some a)) (h3 : specialIn K a "__get__" = some (some g)) (h4 : takesIn K a = some true) : findObj K D od nm = some (.bind g a) := by
  obtain ⟨c, e⟩ := Option.isSome_iff_exists.mp h1
  unfold findObj
  rw [e, Option.bind_some, h2, Option.bind_some]
  simp [h3, h4]
theorem cls_of_exc {Q : Option Value → Shared → Prop} (C : L2.ExcC K D) (X : K.In s.heap) (J : InstAt s.heap y oy D od) (q : Q (some (.ref D)) { s with toks := s.toks + 1 }) : wpAny (model prog w) A (getAttr? (.ref y) "__class__") Q E s := by
  have f0 : findObj K D od "__class__" = some (.bind (.builtin "getset_descriptor.__get__") (.builtin "object.__class__")) := fo_data (by obtain ⟨c, e, _⟩ := any_some C.hd; rw [e]; rfl) C.ha C.hn C.ht
  obtain ⟨hh, gg, dd, tt, oo⟩ := s
  have k0 := J.type (M := model prog w)
  have k1 := looks_findIn (M := model prog w) X C.hg
  have k2 := looks_findIn (M := model prog w) X C.hk
  have k3 := looks_find (M := model prog w) X J f0
  have isb : Looks (model prog w) hh (isInstance (.ref y) (.type "BaseException")) true := k0.andThen (looks_subIn X C.hs)
  have z0 : (false && onTheHeap (Value.builtin "BaseException.__getattribute__")) = false := rfl
  have z2 : (Value.builtin "BaseException.__getattribute__" == Value.builtin "object.__getattribute__") = false := by decide +kernel
  have z1 : (onTheHeap (Value.ref D) && Value.builtin "BaseException.__getattribute__" == Value.builtin "object.__getattribute__") = false := by rw [z2]; rfl
  unfold getAttr? getAttrBy? getAttrBy
  refine wpAny_bind (wpAny_mkText (wpAny_bind (wpAny_attempt (wpAny_holding (wpAny_bind (k0.at (wpAny_bind (k1.at ?_))))))))
  show wpAny _ _ (if (onTheHeap (Value.ref D) && Value.builtin "BaseException.__getattribute__" == Value.builtin "object.__getattribute__") = true then _ else _) _ _ _
  rw [z1, if_neg Bool.false_ne_true]
  unfold getAttrByItsOwn hookBefore
  refine wpAny_bind ?_
  rw [if_pos (show onTheHeap (Value.ref D) = true from rfl)]
  refine k2.at ?_
  refine wpAny_bind (wpAny_attempt (wpAny_holding ?_))
  unfold callGetattribute
  rw [z0, if_neg Bool.false_ne_true]
  unfold boundAndCalled
  rw [PySem.F.excAttr_ValueError.ga.bind (.ref y)]
  refine wpAny_bind (wpAny_pure ?_)
  show wpAny _ _ (call (.builtin "BaseException.__getattribute__") [.ref y, .str "__class__" tt]) _ _ _
  refine wpAny_call (codeAny_call_builtin PySem.F.excAttr_ValueError.ga.plain PySem.F.entry_bexc_ga ?_)
  refine @check_slot (model prog w) _ _ ⟨hh, gg, dd, tt + 1, oo⟩ "BaseException.__getattribute__" "BaseException" "__getattribute__" (.ref y) [.str "__class__" tt] [] _ (by decide +kernel) (by decide +kernel) isb (PySem.F.args_bexc_ga (.ref y) (.str "__class__" tt)) ?_
  unfold Builtin.«object.__getattribute__»
  refine wpAny_bind (wpAny_of_eq (a := ((Value.ref y : Value), [Value.str "__class__" tt])) (by first | rfl | (simp only [slotArgs]; rfl)) ?_)
  refine wpAny_bind (wpAny_pure (wpAny_bind (k0.at (wpAny_bind (k3.at ?_)))))
  show wpAny _ _ (holding [Value.builtin "object.__class__"] (call (.builtin "getset_descriptor.__get__") [.builtin "object.__class__", .ref y, .ref D]) >>= ret) _ _ _
  refine wpAny_bind (wpAny_holding (wpAny_call (class_get (s := ⟨hh, gg, dd, tt + 1, oo⟩) (ox := oy) (od := od) X J C.hm ?_)))
  refine wpAny_pure ?_
  show wpAny _ _ (handedOut (.ref D)) _ _ _
  rw [handedOut_of (v := .ref D) rfl]
  first
    | exact wpAny_pure (wpAny_pure q)
    | exact wpAny_pure q
    | exact wpAny_pure (wpAny_bind (wpAny_pure (wpAny_pure q)))
theorem kit_exc (C : L2.ExcC K D) : KitX K (.ref y) (.ref D) (fun h => InstAt h y oy D od) where
  ty := fun _ _ _ J => J.type
  it := fun _ _ X _ => by
    obtain ⟨c, hc, _⟩ := any_some C.hd
    unfold clsIn at hc
    split at hc
    · rename_i c1 c2 c3 c4 ho
      intro A2 Q2 E2 s2 k q
      unfold isType loadHead
      exact wpAny_bind (wpAny_loadPart (k _ _ (X _ _ ho)) (wpAny_pure q))
    · cases hc
  ne := fun h tp dd its n sl X htp => by
    obtain ⟨c, hc, _⟩ := any_some C.hd
    refine Bool.eq_false_iff.mpr fun q => ?_
    have e : D = tp := Value.ref.inj (beq_iff_eq.mp q)
    subst e
    unfold clsIn at hc
    split at hc
    · rename_i c1 c2 c3 c4 ho
      cases (X _ _ ho).symm.trans htp
    · cases hc
  ca := fun X J k => cls_of_exc C X J k
end
section
open L2
def rIsX (K : Frag) (D a : Addr) (cls : Value) (d : Option Addr) : List V → Hp → VK → Prop := fun xs H Q => ∃ (c : V) (dd : Addr) (fs : List (Str × V)), xs = [.ref a, c] ∧ cls = .ref D ∧ d = some dd ∧ H dd = some (.xd fs) ∧
  ((∃ (cv : Value) (b : Bool), (∀ u, RelV c u → u = cv) ∧ kitOne K (.ref D) cv = some b ∧ Q (.bl b) H) ∨
    ∃ (tp : Addr) (cs : List V) (b : Bool), c = .ref tp ∧ SqT K H tp cs ∧ (∀ its, Vals cs its → kitAny K (.ref D) its = some b) ∧ Q (.bl b) H)
theorem call_isX {X : Cx} {a D : Addr} {cls : Value} {d : Option Addr} {oe : Obj} {pn : List (Addr × Obj)} (C : ExcC X.K D) (hz : Zc cls d oe) (hf : ∃ vs, oe.data = .fields vs) : CallR (X.suite a ((a, oe) :: pn)) (.builtin "isinstance") (rIsX X.K D a cls d) := by
  intro pins s σ H xs us Q I r h
  obtain ⟨c, dd, fs, rfl, rfl, rfl, ed, h⟩ := h
  obtain ⟨u, v, rfl, ru, rv⟩ := vals2 r
  obtain rfl : u = Value.ref a := ru
  obtain ⟨hget, _⟩ := I.pin (a, oe) (List.mem_append.mpr (.inl List.mem_cons_self))
  obtain ⟨vs, hv⟩ := hf
  have hx : ObjOk X.prog X.w H s.heap dd (.xd fs) := I.hok dd _ ed
  obtain ⟨mA, hns, _⟩ := hx
  obtain ⟨od, ho, _⟩ := lookIn_ns hns
  have J : InstAt s.heap a oe D (some od) := ⟨hget, hz.1, by unfold notCls; rw [hv] <;> rfl, by rw [hz.2]; exact ho⟩
  rcases h with ⟨cv, b, hcv, e, q⟩ | ⟨tp, cs, b, rfl, hs, e, q⟩
  · obtain rfl := hcv _ rv
    exact kia_one (kit_exc C) I.kIn J e (fun z => nomatch z) fun tk => ⟨.bl b, H, I.kept (t' := tk) fun _ _ z => z, rfl, q⟩
  · obtain rfl : v = Value.ref tp := rv
    obtain ⟨its, rs, p2, _⟩ := I.tuple hs
    obtain ⟨⟨oc, odd, dt, sl⟩, e2, hc, n2, hd⟩ := id p2
    have hc : oc = .type "tuple" := hc
    have hd : dt = .seq its.toArray n2 := hd
    subst hc hd
    exact kia_tup (kit_exc C) I.kIn J e2 (e its rs) (fun z => nomatch z) fun tk => ⟨.bl b, H, I.kept (t' := tk) fun _ _ z => z, rfl, q⟩
end
/-! ### facts -/
end Wl
namespace Hd
open PySem PySem.Spec PyProof.Rows L2
def excC (D : Addr) : Fact := fun K => He.eqO (PySem.W.findIn K (.ref D) "__getattribute__") (some (some (.builtin "BaseException.__getattribute__"))) && (He.eqO (PySem.W.findIn K (.ref D) "__getattr__") (some none) && (decide (PySem.W.subIn K (.ref D) (.type "BaseException") = some true) && (PySem.W.hasDictIn K D &&
  (He.eqO (PySem.W.findIn K (.ref D) "__class__") (some (some (.builtin "object.__class__"))) && (He.eqO (PySem.W.specialIn K (.builtin "object.__class__") "__get__") (some (some (.builtin "getset_descriptor.__get__"))) &&
  (decide (PySem.W.takesIn K (.builtin "object.__class__") = some true) && decide (PySem.W.mroIn K D (.type "object") = some true)))))))
theorem excC_ok {K : PySem.W.Frag} {D : Addr} (c : excC D K = true) : ExcC K D := by
  obtain ⟨c1, c⟩ := He.ba c
  obtain ⟨c2, c⟩ := He.ba c
  obtain ⟨c3, c⟩ := He.ba c
  obtain ⟨c4, c⟩ := He.ba c
  obtain ⟨c5, c⟩ := He.ba c
  obtain ⟨c6, c⟩ := He.ba c
  obtain ⟨c7, c8⟩ := He.ba c
  exact ⟨He.eqO_ok c1, He.eqO_ok c2, of_decide_eq_true c3, c4, He.eqO_ok c5, He.eqO_ok c6, of_decide_eq_true c7, of_decide_eq_true c8⟩
def kit1 (D : Addr) (c : Value) (b : Bool) : Fact := fun K => decide (PySem.W.kitOne K (.ref D) c = some b)
theorem kit1_ok {K : PySem.W.Frag} {D : Addr} {c : Value} {b : Bool} (h : kit1 D c b K = true) : PySem.W.kitOne K (.ref D) c = some b := of_decide_eq_true h
def kitN (D : Addr) (cs : List Value) (b : Bool) : Fact := fun K => decide (PySem.W.kitAny K (.ref D) cs = some b)
theorem kitN_ok {K : PySem.W.Frag} {D : Addr} {cs : List Value} {b : Bool} (h : kitN D cs b K = true) : PySem.W.kitAny K (.ref D) cs = some b := of_decide_eq_true h
def exm1 (D : Addr) (c : Value) (b : Bool) : Fact := fun K => decide (PySem.W.exmOne K (.ref D) c = some b)
theorem exm1_ok {K : PySem.W.Frag} {D : Addr} {c : Value} {b : Bool} (h : exm1 D c b K = true) : PySem.W.exmOne K (.ref D) c = some b := of_decide_eq_true h
end Hd
set_option Elab.async false
set_option linter.all false
set_option maxRecDepth 100000
set_option maxHeartbeats 4000000
/-! for .. in enumerate(a tuple) -/
namespace Wl
open PySem PySem.Spec PyProof.Rows L2
/-- one argument: whatever begins to be walked -/
theorem enum1_new {v : Value} {o : Obj} {Hh : Heap → Prop} (B : PySem.Begins v o Hh) :
    Meets (Builtin.«enumerate.__new__» ⟨[.type "enumerate", v], []⟩) (fun _ R s => Hh s.heap ∧ R (.ok (.ret (.ref (s.heap.push o).objs.size))) { s with heap := (s.heap.push o).push { cls := .type "enumerate", data := .fields #[.none, .bool false, .ref s.heap.objs.size, rawInt 0, .none, .none] } }) :=
  .of_wp fun prog w A R s h => by
    obtain ⟨hp, g, d, tk, os⟩ := s
    obtain ⟨h1, h⟩ := h
    have hsub := sub_enumerate
    have go : ∀ {A' : Around} {E : Value → Shared → Prop} {Q : Value → Shared → Prop}, Q (.ref hp.objs.size) ⟨hp.push o, g, d, tk, os⟩ → wpAny (model prog w) A' (pyIter v) Q E ⟨hp, g, d, tk, os⟩ := fun q => B.iter prog w _ _ ⟨hp, g, d, tk, os⟩ _ h1 q
    wp_walk using go
    refine wpAny_stack_any fun st => wpAny_pure ?_
    split
    · rename_i c _ _ _ _ _
      cases (c == Value.type "enumerate") <;> (wp_walk using go; exact ⟨_, rfl, h⟩)
    · wp_walk using go
      exact ⟨_, rfl, h⟩
theorem call_enum1 {prog : Program} {w : World} {A : Around} {E : Value → Shared → Prop} {s : Shared} {v : Value} {o : Obj} {Hh : Heap → Prop} {Q : Value → Shared → Prop} (B : PySem.Begins v o Hh) (h1 : Hh s.heap)
    (h : ∀ h', IsEnum h' (s.heap.objs.size + 1) s.heap.objs.size 0 .none → h'.get? s.heap.objs.size = some o → h'.objs.size = s.heap.objs.size + 2 → (∀ b o, s.heap.get? b = some o → h'.get? b = some o) → Q (.ref (s.heap.objs.size + 1)) { s with heap := h' }) :
    wpAny (model prog w) A (call (.type "enumerate") [v]) Q E s := by
  refine callType_new F.called_enumerate (by decide) (F.typeCall_enumerate_1 _) (F.newCall_enumerate_1 _) (fun obj => F.args_object_init_2 obj _) F.entry_enumerate_new (enum1_new B) ⟨h1, ?_⟩
  have hz : (s.heap.push o).objs.size = s.heap.objs.size + 1 := Heap.size_push ..
  show _ ∧ _
  rw [hz]
  have he : IsEnum ((s.heap.push o).push { cls := .type "enumerate", data := .fields #[.none, .bool false, .ref s.heap.objs.size, rawInt 0, .none, .none] }) (s.heap.objs.size + 1) s.heap.objs.size 0 .none := by
    have q := Heap.get?_push_size (s.heap.push o) (o := { cls := .type "enumerate", data := .fields #[.none, .bool false, .ref s.heap.objs.size, rawInt 0, .none, .none] }) rfl
    rw [hz] at q
    exact q
  refine ⟨⟨_, he, rfl⟩, h _ he ?_ (by rw [Heap.size_push, hz]) fun b o x => Heap.get?_push_of_some _ (Heap.get?_push_of_some _ x)⟩
  exact Heap.get?_push_of_some _ (Heap.get?_push_size _ B.free)
/-- the tuple at a, each item in a new pair with its place -/
def ItE (K : PySem.W.Frag) (a : Addr) : It :=
  ⟨fun i H => ∃ (xs : List V) (x : V), SqT K H a xs ∧ xs[i]? = some x, fun i H v H' => ∃ T x, v = .ref T ∧ H T = none ∧ H' = upd H T (.tup [.int (i : Nat), x]) ∧ ∀ xs, SqT K H a xs → xs[i]? = some x, fun i H => ∃ xs : List V, SqT K H a xs ∧ xs.length = i⟩
theorem two_mem {b e it : Addr} (hb : b ∈ [e, it]) : b = e ∨ b = it := by simpa using hb
theorem turn_enumT {P : Program} {w : World} {K : PySem.W.Frag} {elts : List Expr} {kk : Nat} {tpos : Pos} (a e it : Addr) :
    Turn P w K (.Tuple elts kk tpos) (ItE K a) [e, it] e (fun i h => (∃ old, IsEnum h e it ((i : Nat) : Int) old) ∧ h.IsTupleIter it a i ∧ e ≠ it ∧ a ≠ it ∧ a ≠ e) where
  mem := by simp
  obj := fun i h st b hb => by
    obtain ⟨⟨old, he⟩, ⟨o, ho, hc, hd⟩, _⟩ := st
    rcases two_mem hb with rfl | rfl
    · exact ⟨_, he, fun v q => nomatch q⟩
    · exact ⟨o, ho, fun v q => by rw [hd] at q; cases q⟩
  keep := fun i h h' st k => ⟨let ⟨old, he⟩ := st.1; ⟨old, k e (by simp) _ he⟩, st.2.1.at fun o q => k it (by simp) o q, st.2.2⟩
  item := by
    intro X hP hw hK hc i pins s σ H E I hf st hg
    subst hP hw hK
    obtain ⟨⟨old, he⟩, hit, hne, hai, hae⟩ := st
    obtain ⟨xs, x, hq, hx⟩ := hg
    obtain ⟨its, rv, p, hz⟩ := I.tuple hq
    obtain ⟨u, hu, ru⟩ := rv.get hx
    have hel : e < s.heap.objs.size := Heap.lt_size he
    have hil : it < s.heap.objs.size := by obtain ⟨_, q, _⟩ := hit; exact Heap.lt_size q
    have lt : i < its.toArray.size := by
      have := (List.getElem?_eq_some_iff.mp hu).1
      simpa using this
    have D := PySem.Draws.tuple (prog := X.prog) (w := X.w) (A := X.A.in1) (I.ok.hd hc) it a hai its.toArray
    refine wpAny_pyNext_enum_itemD D he ⟨hit, p⟩ lt hne (fun q => (two_mem q).elim hne fun z => hae z.symm) fun y h' tk hy ho st' hT hsz hk => ?_
    have ey : y = u := by
      have q1 : its.toArray[i]? = some y := hy
      rw [show its.toArray[i]? = some u by simpa using hu] at q1
      exact (Option.some.inj q1).symm
    subst ey
    refine ⟨_, rfl, wpAny_letOwnedTupleGo_enum (s := { s with heap := h', toks := tk + 1 }) ho fun h'' he' sb => ?_⟩
    have hT2 := (sb.2 _ (Nat.ne_of_gt hel)).trans hT
    have new : ObjOk X.prog X.w (upd H s.heap.objs.size (.tup [.int (i : Nat), x])) h'' s.heap.objs.size (.tup [.int (i : Nat), x]) := ⟨by show 2 ≤ sizeLine; decide, [.int i tk, y], .cons ⟨_, rfl⟩ (.cons ru .nil), ⟨_, hT2, rfl, _, rfl⟩⟩
    have ks : ∀ b ob, b ∉ [e, it] → s.heap.get? b = some ob → h''.get? b = some ob := fun b ob hb q => (sb.2 b (fun z => hb (by simp [z]))).trans (hk b ob (fun z => hb (by simp [z])) (fun z => hb (by simp [z])) q)
    have I1 : Inv X pins σ (upd H s.heap.objs.size (.tup [.int (i : Nat), x])) { s with heap := h'', toks := tk + 1 } := I.turnedNew (t' := tk + 1) (ch := [e, it]) ks hf (Nat.le_refl _) new
    refine ⟨.ref s.heap.objs.size, _, I1, rfl, ⟨_, x, rfl, I.hok.fresh (Nat.le_refl _), rfl, fun ys hy => by rw [I.tuple_inj hy hq]; exact hx⟩, ⟨⟨y, ?_⟩, st'.1.at fun o q => (sb.2 it (Ne.symm hne)).trans q, hne, hai, hae⟩, fun b hb => ?_⟩
    · rw [show ((i + 1 : Nat) : Int) = (i : Int) + 1 by omega]
      exact he'
    · have hb' : b < s.heap.objs.size := by
        rcases two_mem hb with z | z
        · rw [z]; exact hel
        · rw [z]; exact hil
      rw [upd_ne (Nat.ne_of_lt hb')]
      exact (hf b hb).1
  done := by
    intro X hP hw hK hc i pins s σ H E I hf st hg
    subst hP hw hK
    obtain ⟨⟨old, he⟩, hit, hne, hai, hae⟩ := st
    obtain ⟨xs, hq, hx⟩ := hg
    obtain ⟨its, rv, p, hz⟩ := I.tuple hq
    obtain ⟨f0, f1, f2, f3, f4, f5⟩ := hf it (by simp)
    have hl := rv.length
    have hi : i = its.toArray.size := by simp [← hx, hl]
    subst hi
    exact wpAny_pyNext_enum_endD (PySem.Draws.tuple (prog := X.prog) (w := X.w) (A := X.A.in1) (I.ok.hd hc) it a hai its.toArray) he ⟨hit, p⟩ fun h' eb => ⟨rfl, I.turned (t' := s.toks) (fun b o hb q => eb b o hb q) f0 f1 f3 f4 f5⟩
  self := fun A i s Q E st h => let ⟨⟨_, he⟩, _⟩ := st; wpAny_pyIter_enum he h
def iEnumT (K : PySem.W.Frag) (ta : TA) : TI := fun σ H R => ta σ H fun vs H1 => ∃ a xs, vs = [.ref a] ∧ SqT K H1 a xs ∧ R (ItE K a) H1
theorem pi_enumT {X : Cx} {e : Expr} {ta : TA} {p pos tpos : Pos} {elts : List Expr} {kk : Nat} (hg : Gl X "enumerate") (hm : X.mg "enumerate" = none) (ha : PA X [e] ta) (hs : starEach [e] X.env = [(false, eval e X.env)] := by rfl) :
    PI X (.Tuple elts kk tpos) (.Call (.Name "enumerate" p) [e] [] pos) (iEnumT X.K ta) := by
  refine ⟨fun pins s σ H R I h => Call_ (ld_blt I hg hm boot_enumerate (PyProof.Rows.callWith_type1 (thn (ha.run pos pins s σ H _ I h) fun us s1 ⟨vs, H1, I1, r1, q1⟩ => ?_) hs rfl))⟩
  obtain ⟨a, xs, ex, hq, q⟩ := q1
  subst ex
  cases r1 with
  | cons r rr =>
    cases rr
    cases r
    obtain ⟨its, rv, p', hz⟩ := I1.tuple hq
    have hal : a < s1.heap.objs.size := by obtain ⟨o, ho, _⟩ := id p'; exact Heap.lt_size ho
    refine call_enum1 (PySem.begins_tuple a its.toArray) p' fun h' he ho hsz hk => wpAny_pyIter_enum he ?_
    have I2 : Inv X pins σ H1 { s1 with heap := h' } := I1.kept (t' := s1.toks) hk
    refine ⟨s1.heap.objs.size + 1, [s1.heap.objs.size + 1, s1.heap.objs.size], _, _, H1, rfl, I2, turn_enumT a (s1.heap.objs.size + 1) s1.heap.objs.size, ⟨⟨.none, he⟩, ⟨_, ho, rfl, rfl⟩, Nat.succ_ne_self _, Nat.ne_of_lt hal, Nat.ne_of_lt (Nat.lt_succ_of_lt hal)⟩, fun b hb => ?_, q⟩
    have hle : s1.heap.objs.size ≤ b := by
      rcases two_mem hb with z | z
      · rw [z]; exact Nat.le_add_right _ _
      · rw [z]; exact Nat.le_refl _
    exact I1.fpOk hle (I1.hok.fresh hle)
theorem walk_enumT {K : PySem.W.Frag} {a : Addr} {xs : List V} : Walk (ItE K a) xs.length (fun H => SqT K H a xs) (YPair (fun i => some (.int (i : Nat))) (fun i => xs[i]?)) := by
  refine ⟨fun i _ hi q => ⟨xs, xs[i], q, by simp [hi]⟩, fun _ q => ⟨xs, q, rfl⟩, fun i H v H' _ q y => ?_⟩
  obtain ⟨T, x, h1, h2, h3, h4⟩ := y
  exact ⟨T, .int (i : Nat), x, h1, h2, h3, rfl, h4 xs q⟩
end Wl
set_option Elab.async false
set_option linter.all false
set_option maxRecDepth 100000
set_option maxHeartbeats 4000000
/-! for .. in zip(a tuple, a list) -/
namespace Wl
open PySem PySem.Spec PyProof.Rows L2
/-- the tuple at a and the list at b, the items in new pairs -/
def ItzT (K : PySem.W.Frag) (a b : Addr) : It :=
  ⟨fun i H => ∃ (xs ys : List V) (x y : V), SqT K H a xs ∧ SqL K H b ys ∧ xs[i]? = some x ∧ ys[i]? = some y,
    fun i H v H' => ∃ T x y, v = .ref T ∧ H T = none ∧ H' = upd H T (.tup [x, y]) ∧ (∀ xs, SqT K H a xs → xs[i]? = some x) ∧ ∀ ys, SqL K H b ys → ys[i]? = some y,
    fun i H => ∃ xs ys : List V, SqT K H a xs ∧ SqL K H b ys ∧ i ≤ xs.length ∧ i ≤ ys.length ∧ (i = xs.length ∨ i = ys.length)⟩
theorem five_mem {c z TI TO i1 i2 : Addr} (h : c ∈ [z, TI, TO, i1, i2]) : c = z ∨ c = TI ∨ c = TO ∨ c = i1 ∨ c = i2 := by simpa using h
theorem turn_zipT {P : Program} {w : World} {K : PySem.W.Frag} {elts : List Expr} {kk : Nat} {tpos : Pos} {a b z TI TO i1 i2 : Addr} (D : ZipSep2 z TI TO i1 i2 [i1, a] [i2, b]) (ha1 : a ≠ i1) (hb2 : b ≠ i2) :
    Turn P w K (.Tuple elts kk tpos) (ItzT K a b) [z, TI, TO, i1, i2] z (fun i h => IsZip h z TI TO .none ∧ IsTupOf2 h TI (.ref i1) (.ref i2) ∧ (∃ x y, IsTupOf2 h TO x y) ∧ h.IsTupleIter i1 a i ∧ h.IsListIter i2 b i) where
  mem := by simp
  obj := fun i h st c hc => by
    obtain ⟨hz, hTI, ⟨x, y, hTO⟩, ⟨o1, e1, _, d1⟩, ⟨o2, e2, _, d2⟩⟩ := st
    rcases five_mem hc with q | q | q | q | q
    · rw [q]; exact ⟨_, hz, fun v q => nomatch q⟩
    · rw [q]; exact ⟨_, hTI, fun v q => nomatch q⟩
    · rw [q]; exact ⟨_, hTO, fun v q => nomatch q⟩
    · rw [q]; exact ⟨o1, e1, fun v q => by rw [d1] at q; cases q⟩
    · rw [q]; exact ⟨o2, e2, fun v q => by rw [d2] at q; cases q⟩
  keep := fun i h h' st k => by
    obtain ⟨hz, hTI, ⟨x, y, hTO⟩, h1, h2⟩ := st
    exact ⟨k z (by simp) _ hz, k TI (by simp) _ hTI, ⟨x, y, k TO (by simp) _ hTO⟩, h1.at fun o q => k i1 (by simp) o q, h2.at fun o q => k i2 (by simp) o q⟩
  item := by
    intro X hP hw hK hc i pins s σ H E I hf st hg
    subst hP hw hK
    obtain ⟨hz, hTI, ⟨x0, y0, hTO⟩, h1, h2⟩ := st
    obtain ⟨xs, ys, x, y, hqx, hqy, hx, hy⟩ := hg
    obtain ⟨its, rv, p, _⟩ := I.tuple hqx
    obtain ⟨its2, rv2, p2, _⟩ := I.list hqy
    obtain ⟨u, hu, ru⟩ := rv.get hx
    obtain ⟨u2, hu2, ru2⟩ := rv2.get hy
    have hzl : z < s.heap.objs.size := Heap.lt_size hz
    have hil1 : i1 < s.heap.objs.size := by obtain ⟨_, e1, _⟩ := h1; exact Heap.lt_size e1
    have hil2 : i2 < s.heap.objs.size := by obtain ⟨_, e2, _⟩ := h2; exact Heap.lt_size e2
    have lt1 : i < its.toArray.size := by
      have := (List.getElem?_eq_some_iff.mp hu).1
      simpa using this
    have lt2 : i < its2.toArray.size := by
      have := (List.getElem?_eq_some_iff.mp hu2).1
      simpa using this
    have D1 := PySem.Draws.tuple (prog := X.prog) (w := X.w) (A := X.A.in1) (I.ok.hd hc) i1 a ha1 its.toArray
    have D2 := PySem.Draws.list (prog := X.prog) (w := X.w) (A := X.A.in1) (I.ok.hd hc) i2 b hb2 its2.toArray
    refine wpAny_pyNext_zipD2_item D D1 D2 hz hTI hTO ⟨h1, p⟩ ⟨h2, p2.isList⟩ lt1 lt2 fun v1 v2 h' tk e1 e2 z' TO' st1 st2 hT hsz hk => ?_
    have ev1 : v1 = u := by
      have q1 : its.toArray[i]? = some v1 := e1
      rw [show its.toArray[i]? = some u by simpa using hu] at q1
      exact (Option.some.inj q1).symm
    have ev2 : v2 = u2 := by
      have q1 : its2.toArray[i]? = some v2 := e2
      rw [show its2.toArray[i]? = some u2 by simpa using hu2] at q1
      exact (Option.some.inj q1).symm
    subst ev1 ev2
    refine ⟨_, rfl, wpAny_letOwnedTupleGo_zip (s := { s with heap := h', toks := tk }) z' fun h'' z'' sb => ?_⟩
    have hT2 : h''.get? s.heap.objs.size = some { cls := .type "tuple", data := .seq #[v1, v2] } := (sb.2 _ (Nat.ne_of_gt hzl)).trans hT
    have new : ObjOk X.prog X.w (upd H s.heap.objs.size (.tup [x, y])) h'' s.heap.objs.size (.tup [x, y]) :=
      ⟨by show 2 ≤ sizeLine; decide, [v1, v2], .cons ru (.cons ru2 .nil), ⟨_, hT2, rfl, _, rfl⟩⟩
    have I1 : Inv X pins σ (upd H s.heap.objs.size (.tup [x, y])) { s with heap := h'', toks := tk } :=
      I.turnedNew (t' := tk) (ch := [z, TI, TO, i1, i2]) (fun c o hb q => (sb.2 c (fun q' => hb (by simp [q']))).trans (hk c o (fun q' => hb (by simp [q'])) (fun q' => hb (by simp [q'])) (fun q' => hb (by simp [q'])) (fun q' => hb (by simp [q'])) q)) hf (Nat.le_refl _) new
    refine ⟨.ref s.heap.objs.size, _, I1, rfl, ⟨_, x, y, rfl, I.hok.fresh (Nat.le_refl _), rfl, fun l hl => by rw [I.tuple_inj hl hqx]; exact hx, fun l hl => by rw [I.list_inj hl hqy]; exact hy⟩, ⟨z'', ?_, ⟨v1, v2, ?_⟩, ?_, ?_⟩, fun c hcm => ?_⟩
    · exact (sb.2 _ D.TIz).trans (hk _ _ D.TIz D.TITO D.TIi1 D.TIi2 hTI)
    · exact (sb.2 _ D.TOz).trans TO'
    · exact st1.1.at fun o q => (sb.2 _ (Ne.symm D.zi1)).trans q
    · exact st2.1.at fun o q => (sb.2 _ (Ne.symm D.zi2)).trans q
    · have hlt : c < s.heap.objs.size := by
        rcases five_mem hcm with q | q | q | q | q
        · rw [q]; exact hzl
        · rw [q]; exact Heap.lt_size hTI
        · rw [q]; exact Heap.lt_size hTO
        · rw [q]; exact hil1
        · rw [q]; exact hil2
      rw [upd_ne (Nat.ne_of_lt hlt)]
      exact (hf c hcm).1
  done := by
    intro X hP hw hK hc i pins s σ H E I hf st hg
    subst hP hw hK
    obtain ⟨hz, hTI, ⟨x0, y0, hTO⟩, h1, h2⟩ := st
    obtain ⟨xs, ys, hqx, hqy, hl1, hl2, hend⟩ := hg
    obtain ⟨its, rv, p, _⟩ := I.tuple hqx
    obtain ⟨its2, rv2, p2, _⟩ := I.list hqy
    have l1 := rv.length
    have l2 := rv2.length
    have D1 := PySem.Draws.tuple (prog := X.prog) (w := X.w) (A := X.A.in1) (I.ok.hd hc) i1 a ha1 its.toArray
    have D2 := PySem.Draws.list (prog := X.prog) (w := X.w) (A := X.A.in1) (I.ok.hd hc) i2 b hb2 its2.toArray
    have s1 : its.toArray.size = xs.length := by simp [l1]
    have s2 : its2.toArray.size = ys.length := by simp [l2]
    exact wpAny_pyNext_zipD2_end D D1 D2 hz hTI hTO ⟨h1, p⟩ ⟨h2, p2.isList⟩ (by omega) (by omega) (by omega) fun h' tk hk => ⟨rfl, I.turnedL (t' := tk) (ch := [z, TI, TO, i1, i2]) (fun c o hb q =>
      hk c o (fun q' => hb (by simp [q'])) (fun q' => hb (by simp [q'])) (fun q' => hb (by simp [q'])) (fun q' => hb (by simp [q'])) q) hf⟩
  self := fun A i s Q E st h => wpAny_pyIter_zip st.1 h
theorem sep_of {n a b : Nat} (la : a < n) (lb : b < n) : ZipSep2 (n + 4) (n + 2) (n + 3) n (n + 1) [n, a] [n + 1, b] := by
  have e : ∀ {x y : Nat}, x ≠ y → (x : Addr) ≠ y := fun h => h
  have m2 : ∀ {x y z : Nat}, x ≠ y → x ≠ z → (x : Addr) ∉ ([y, z] : List Addr) := fun h1 h2 q => by
    rcases List.mem_cons.mp q with q | q
    · exact h1 q
    · exact h2 (List.mem_singleton.mp q)
  exact ⟨e (by omega), e (by omega), e (by omega), e (by omega), List.mem_cons_self, m2 (by omega) (by omega), m2 (by omega) (by omega), e (by omega), List.mem_cons_self, m2 (by omega) (by omega), m2 (by omega) (by omega), m2 (by omega) (by omega), m2 (by omega) (by omega)⟩
def iZipT (K : PySem.W.Frag) (ta : TA) : TI := fun σ H R => ta σ H fun vs H1 => ∃ a b xs ys, vs = [.ref a, .ref b] ∧ SqT K H1 a xs ∧ SqL K H1 b ys ∧ R (ItzT K a b) H1
theorem pi_zipT {X : Cx} {e e2 : Expr} {ta : TA} {p pos tpos : Pos} {elts : List Expr} {kk : Nat} (hg : Gl X "zip") (hm : X.mg "zip" = none) (ha : PA X [e, e2] ta)
    (hs : starEach [e, e2] X.env = (false, eval e X.env) :: starEach [e2] X.env := by rfl) (hpl : (backTo pos (starEach [e2] X.env)).any (·.1) = false := by rfl) :
    PI X (.Tuple elts kk tpos) (.Call (.Name "zip" p) [e, e2] [] pos) (iZipT X.K ta) := by
  refine ⟨fun pins s σ H R I h => ?_⟩
  refine Call_ (ld_blt I hg hm PyProof.Rows.boot_zip (PyProof.Rows.callWith_type1 (thn (ha.run pos pins s σ H _ I h) fun us s1 ⟨vs, H1, I1, r1, q1⟩ => ?_) hs hpl))
  obtain ⟨a, b, xs, ys, ex, hqx, hqy, q⟩ := q1
  subst ex
  cases r1 with
  | cons r rr =>
    cases rr with
    | cons r' rr =>
      cases rr
      cases r
      cases r'
      obtain ⟨its, rv, p1, _⟩ := I1.tuple hqx
      obtain ⟨its2, rv2, p2, _⟩ := I1.list hqy
      have la : a < s1.heap.objs.size := by obtain ⟨o, ho, _⟩ := id p1; exact Heap.lt_size ho
      have lb : b < s1.heap.objs.size := p2.lt
      refine zip_begins2 (PySem.begins_tuple a its.toArray) (PySem.begins_list b its2.toArray) p1 p2.isList fun h' hz hTI hTO h1 h2 hsz hk => wpAny_pyIter_zip hz ?_
      have I2 : Inv X pins σ H1 { s1 with heap := h' } := I1.kept (t' := s1.toks) hk
      have sep : ZipSep2 (s1.heap.objs.size + 4) (s1.heap.objs.size + 2) (s1.heap.objs.size + 3) s1.heap.objs.size (s1.heap.objs.size + 1) [s1.heap.objs.size, a] [s1.heap.objs.size + 1, b] := by
        exact sep_of la lb
      refine ⟨s1.heap.objs.size + 4, [s1.heap.objs.size + 4, s1.heap.objs.size + 2, s1.heap.objs.size + 3, s1.heap.objs.size, s1.heap.objs.size + 1], _, _, H1, rfl, I2, turn_zipT sep (Nat.ne_of_lt la) (Nat.ne_of_lt (Nat.lt_succ_of_lt lb)), ⟨hz, hTI, ⟨_, _, hTO⟩, ⟨_, h1, rfl, rfl⟩, ⟨_, h2, rfl, rfl⟩⟩, fun c hcm => ?_, q⟩
      have hle : s1.heap.objs.size ≤ c := by
        rcases five_mem hcm with z | z | z | z | z
        · rw [z]; exact Nat.le_add_right _ _
        · rw [z]; exact Nat.le_add_right _ _
        · rw [z]; exact Nat.le_add_right _ _
        · rw [z]; exact Nat.le_refl _
        · rw [z]; exact Nat.le_add_right _ _
      exact I1.fpOk hle (I1.hok.fresh hle)
theorem walk_zipT {K : PySem.W.Frag} {a b : Addr} {xs ys : List V} (hl : xs.length = ys.length) : Walk (ItzT K a b) xs.length (fun H => SqT K H a xs ∧ SqL K H b ys) (YPair (fun i => xs[i]?) (fun i => ys[i]?)) := by
  refine ⟨fun i _ hi q => ⟨xs, ys, xs[i], ys[i]'(by omega), q.1, q.2, by simp [hi], by simp [← hl, hi]⟩, fun _ q => ⟨xs, ys, q.1, q.2, by omega, by omega, by omega⟩, fun i H v H' _ q y => ?_⟩
  obtain ⟨T, x, z, h1, h2, h3, h4, h5⟩ := y
  exact ⟨T, x, z, h1, h2, h3, h4 xs q.1, h5 ys q.2⟩
end Wl
set_option Elab.async false
set_option linter.all false
set_option maxRecDepth 100000
set_option maxHeartbeats 4000000
/-! own exception classes with __init__ of up to two fields: raised -/
namespace Wl
open PySem PySem.Spec PyProof.Rows L2
/-- the fields of a raised error, the last one first -/
def errF (cap : Str) (fns : List Str) (vs : List V) : List (Str × V) := (fns.zip vs).reverse ++ [(("caption" : Str), V.str cap)]
/-- what __init__ of such a class does -/
def spErr (C : Addr) (cap : Str) (fns : List Str) : Sp := fun vs H Q _ => ∃ a xs, vs = .ref a :: xs ∧ xs.length = fns.length ∧ H a = some (exo a C none) ∧ ∀ dx, H dx = none → dx ≠ a → Q .non (upd (upd H dx (exd dx (errF cap fns xs))) a (exo a C (some dx)))
def tErr (C : Addr) (cap : Str) (fns : List Str) (ta : TA) : L2.St → Hp → XK → Prop := fun σ H Q => ta σ H fun vs H1 => vs.length = fns.length ∧ ∀ d, H1 d = none → Q (.ref C) (some d) (upd H1 d (.xd (errF cap fns vs)))
theorem upd_comm {H : Hp} {a b : Addr} {o p : HO} (h : a ≠ b) : upd (upd H a o) b p = upd (upd H b p) a o := by
  funext c
  by_cases e1 : c = a
  · subst e1
    rw [upd_ne h, upd_same, upd_same]
  · by_cases e2 : c = b
    · subst e2
      rw [upd_same, upd_ne e1, upd_same]
    · rw [upd_ne e2, upd_ne e1, upd_ne e1, upd_ne e2]
theorem err_end {H : Hp} {a d C : Addr} {u v : HO} (ha : H a = none) (hd : d ≠ a) : upd (del (upd (upd H d u) a v) a) d (.xd fs) = upd H d (.xd fs) := by
  funext c
  by_cases e1 : c = d
  · subst e1
    rw [upd_same, upd_same]
  · rw [upd_ne e1, upd_ne e1]
    by_cases e2 : c = a
    · subst e2
      rw [del_same, ha]
    · rw [del_ne e2, upd_ne e2, upd_ne e1]
section
variable {X : Cx} {x : Str} {C fI : Addr} {k : Nat} {fd : FuncData} {ps fl : List Str} {cap : Str} {fns : List Str} {e : Expr} {es : List Expr} {ta : TA} {p pos : Pos}
theorem mk_imp {vs : List V} {H1 : Hp} {Q : XK} (hz : fns.length ≤ 1000) (h : vs.length = fns.length ∧ ∀ d, H1 d = none → Q (.ref C) (some d) (upd H1 d (.xd (errF cap fns vs)))) :
    vs.length ≤ 1000 ∧ ∀ a, H1 a = none → spErr C cap fns (.ref a :: (vs ++ [])) (upd H1 a (exo a C none))
      (fun v H2 => v = .non ∧ ∃ (d : Addr) (fs : List (Str × V)), H2 a = some (exo a C (some d)) ∧ H2 d = some (exd d fs) ∧ H1 d = none ∧ Q (.ref C) (some d) (upd (del H2 a) d (.xd fs))) (fun _ _ _ => False) := by
  obtain ⟨hl, h⟩ := h
  refine ⟨by omega, fun a ha => ⟨a, vs, by rw [List.append_nil], hl, upd_same, fun dx hd hne => ?_⟩⟩
  rw [upd_ne hne] at hd
  refine ⟨rfl, dx, errF cap fns vs, upd_same, by rw [upd_ne hne, upd_same], hd, ?_⟩
  rw [upd_comm (H := H1) (Ne.symm hne), upd_upd, err_end (C := C) ha hne]
  exact h dx hd
/-- C(e, ..), to be raised -/
theorem pmk_err (T : Xb.ExcT X.K C fI fl) (F1 : FnOk X.prog X.w X.K X.mg X.base (L2.CX X.prog X.w) k fI fd ps (spErr C cap fns)) (hr : Room (k + 1) X.A) (hb : Binds X.K fd ps []) (hx : Passes (L2.CX X.prog X.w) X (fun _ _ _ => False)) (hz : fns.length ≤ 1000) (hg : Gl X x) (hm : X.mg x = some (.ref C)) (ha : PA X (e :: es) ta)
    (hdb : (x == ("__debug__" : Str)) = false := by decide) (he : starEach (e :: es) X.env = (false, eval e X.env) :: starEach es X.env := by rfl) (hpl : (backTo pos (starEach es X.env)).any (·.1) = false := by rfl) :
    PMk X (.Call (.Name x p) (e :: es) [] pos) (tErr C cap fns ta) := by
  intro pins s σ H Q I h
  refine wpAny_Call_Name_kw (ld_glob I hg hm ?_ hdb)
  refine PySem.W.callWith_K (h₀ := X.base) I.ok.mod.kin T.cls.kC (thn (ha.run pos pins s σ H _ I h) fun us s1 ⟨vs, H1, I1, r1, q0⟩ => ⟨I1.kIn, ?_⟩) he hpl
  show wpAny _ _ (call (.ref C) us) _ _ _
  obtain ⟨hz1, q1⟩ := mk_imp (C := C) hz q0
  exact Xb.run_new T.cls T.init T.ty F1 hr hb .nil hx I1 r1 hz1 q1
/-- C() -/
theorem pmk_err0 (T : Xb.ExcT X.K C fI fl) (F1 : FnOk X.prog X.w X.K X.mg X.base (L2.CX X.prog X.w) k fI fd ps (spErr C cap [])) (hr : Room (k + 1) X.A) (hb : Binds X.K fd ps []) (hx : Passes (L2.CX X.prog X.w) X (fun _ _ _ => False)) (hg : Gl X x) (hm : X.mg x = some (.ref C))
    (hdb : (x == ("__debug__" : Str)) = false := by decide) :
    PMk X (.Call (.Name x p) [] [] pos) (tErr C cap [] tNil) := by
  intro pins s σ H Q I h
  refine wpAny_Call_Name_kw (ld_glob I hg hm ?_ hdb)
  have h' : ([] : List V).length = ([] : List Str).length ∧ ∀ d, H d = none → Q (.ref C) (some d) (upd H d (.xd (errF cap [] []))) := h
  obtain ⟨hz1, q1⟩ := mk_imp (C := C) (fns := []) (Nat.zero_le _) h'
  exact PySem.W.callWith_K0 I.kIn T.cls.kC (Xb.run_new T.cls T.init T.ty F1 hr hb .nil hx I .nil hz1 q1)
end
/-- a raised error, not caught here: nothing is let out by __init__ -/
theorem passF {P : Program} {w : World} {K : PySem.W.Frag} {mg : Str → Option Value} {base : Heap} {N : List Str} {q : Str} {sc : Scope} {f : Addr} {cd : Value} {A : Around} {outer : List Env} {s : Shared} {H : Hp} {E : XK} :
    Passes (L2.CX P w) (cxOf (L2.CX P w) P w K mg base N q sc f cd A outer s H E) (fun _ _ _ => False) := passes_call (takes_of rfl rfl rfl rfl) fun _ _ _ _ h => h.elim
end Wl
set_option Elab.async false
set_option linter.all false
set_option maxRecDepth 100000
set_option maxHeartbeats 4000000
/-! [c for x in a tuple or a list] -/
namespace Wl
open PySem PySem.Spec PyProof.Rows L2
theorem lc_const {J : It} {xs : List V} {G : Hp → Prop} {σ : L2.St} {H : Hp} {i : Nat} {v : V} {D : Addr} {Qd : Hp → Prop} (wk : Walk J xs.length G (YAt xs)) (hz : xs.length ≤ 100000) (hG : ∀ o, G (upd H D o)) (hd : Qd (upd H D (.lst (List.replicate xs.length v)))) :
    ∃ W : Nat → Nat → Hp → Prop, (∃ m, W 0 m (upd H D (.lst []))) ∧ ∀ i' m H', W i' m H' →
      (J.stop i' H' ∧ Qd H') ∨ (J.go i' H' ∧ ∃ Nx : Hp → Prop, (∀ H2, Nx H2 → ∃ m', m' < m ∧ W (i' + 1) m' H2) ∧ ∀ x H2, J.yld i' H' x H2 → gName i x (wipe σ [i]) H2 fun σ2 H2 => wipe σ2 [i] = wipe σ [i] ∧ tYes σ2 H2 fun b H3 =>
        if b = true then tC v σ2 H3 fun y H4 => ∃ acc, H4 D = some (.lst acc) ∧ acc.length < sizeLine ∧ Nx (upd H4 D (.lst (acc ++ [y]))) else Nx H3) := by
  refine lc_it wk (fun j H' => H' = upd H D (.lst (List.replicate j v))) rfl (fun j H' hj e => by rw [e]; exact hG _) (fun j x H1 H2 hj e y => ?_) (fun H' e => by rw [e]; exact hd)
  obtain ⟨rfl, _⟩ := y
  subst e
  have e0 : wipe ((wipe σ [i]).set i (some x)) [i] = wipe σ [i] := by
    show ((σ.set i none).set i (some x)).set i none = σ.set i none
    rw [List.set_set, List.set_set]
  have e1 : ∃ acc, upd H D (.lst (List.replicate j v)) D = some (.lst acc) ∧ acc.length < sizeLine ∧ upd (upd H D (.lst (List.replicate j v))) D (.lst (acc ++ [v])) = upd H D (.lst (List.replicate (j + 1) v)) := by
    refine ⟨_, upd_same, ?_, ?_⟩
    · rw [List.length_replicate, sizeLine_eq]
      omega
    · rw [upd_upd, ← List.replicate_succ']
  exact ⟨e0, (iteT e1 : if true = true then _ else (upd H D (.lst (List.replicate j v)) = upd H D (.lst (List.replicate (j + 1) v))))⟩
end Wl
set_option Elab.async false
set_option linter.all false
set_option maxRecDepth 100000
set_option maxHeartbeats 4000000
/-! a def with *rest -/
namespace Wl
open PySem PySem.Spec PyProof.Rows L2 StX
section
variable {P : Program} {w : World} {K : PySem.W.Frag} {mg : Str → Option Value} {base : Heap} {k : Nat} {fd : FuncData} {ps : List Str} {sp : Sp}
theorem fnG_star {d : Hd.DA} {N : List Str} {pv : Str} (F : d.Fun K fd) (S : FnScope N (ps ++ [pv]) d.scope)
    (hd0 : d.dfl = []) (hb : ∀ (kV doc pm : Value) (an : Option Addr) (cdv ct : Value) (us rest : List Value), us.length = ps.length → bindArgs (PySem.W.fnOf d.name d.qual d.params d.body d.scope .none kV doc pm an cdv ct) ⟨us ++ rest, []⟩ = (newTuple rest >>= fun t => pure (ps.zip us ++ [(pv, t)])))
    (hbody : ∀ (cdv : Value) (A : Around) (outer : List Env) (s : Shared) (H : Hp) (vs : List V) (Q : VK) (E : XK), A.guards = some [] → Room k (A.deeper (envOfC d.qual d.scope s.heap.objs.size d.a cdv)) → sp vs H Q E →
      ∃ t, PSs (cxOf (L2.CX P w) P w K mg base N d.qual d.scope d.a cdv A outer s H E) d.body t ∧ t { nx := fun _ H' => Q .non H', rt := Q } (start N vs) H) :
    FnG P w K mg base (k + 1) d.a (fun vs H Q E => ∃ ws rest, vs = ws ++ rest ∧ ws.length = ps.length ∧ rest.length ≤ sizeLine ∧ ∀ p, H p = Option.none → sp (ws ++ [V.ref p]) (upd H p (.tup rest)) Q E) := by
  intro A outer s H us vs Q E hg hr e0 r hsp
  obtain ⟨oc, od, dV, kV, doc, pm, an, cdv, ct, osl, rfl, lk, hcd, hD, _⟩ := F.ex
  have hdV : dV = .none := by
    rcases hD with ⟨_, h⟩ | ⟨e, _⟩
    · exact h
    · exact absurd hd0 e
  subst hdV
  obtain ⟨ws, rest, ev, hl, hz, hq⟩ := hsp
  subst ev
  obtain ⟨u1, u2, eu, r1, r2⟩ := vals_split r
  subst eu
  have hn : H s.heap.objs.size = Option.none := e0.hok.fresh (Nat.le_refl _)
  have hl1 : u1.length = ps.length := by rw [← r1.length]; exact hl
  have hl2 : u2.length ≤ sizeLine := by rw [← r2.length]; exact hz
  refine run_bnd (CX := L2.CX P w) lk hcd S hr e0 (G := fun xs H2 => ∃ p, H p = Option.none ∧ xs = ws ++ [V.ref p] ∧ H2 = upd H p (.tup rest)) (fun A' Ex Q' h => ?_) fun s2 H2 xs ⟨p, hp, ex, eH⟩ hr' => ?_
  · rw [hb _ _ _ _ _ _ u1 u2 hl1]
    refine wpAny_bind (wpAny_newTuple (wpAny_pure ?_) hl2)
    have new : ObjOk P w (upd H s.heap.objs.size (.tup rest)) (s.heap.push ({ cls := .type "tuple", data := .seq u2.toArray } : Obj)) s.heap.objs.size (.tup rest) := ⟨hz, u2, r2, ⟨_, Heap.get?_push_size _ rfl, rfl, _, rfl⟩⟩
    have un := un_laid (fs := frs outer) (s := s) (o := ({ cls := .type "tuple", data := .seq u2.toArray } : Obj)) (u := .tup rest) hn
    have z := h _ _ (ws ++ [V.ref s.heap.objs.size]) (u1 ++ [Value.ref s.heap.objs.size]) (env0_laid e0 new) un rfl (fun e s' => cxUp outer s H _ _ E e s' un (fun b o q => Heap.get?_push_of_some _ q) rfl) (r1.append (.cons rfl .nil))
      (by rw [List.length_append, List.length_append, hl] <;> rfl) ⟨_, hn, rfl, rfl⟩
    rw [List.zip_append hl1.symm] at z
    exact z
  · subst ex eH
    exact hbody cdv A outer s2 _ _ Q E hg hr' (hq p hp)
end
end Wl
set_option Elab.async false
set_option linter.all false
set_option maxRecDepth 100000
set_option maxHeartbeats 4000000
/-! len(an own instance) -/
namespace Wl
open PySem PySem.Spec PyProof.Rows L2
theorem cspec_fn {M : Model} {A : Around} {E : Value → Shared → Prop} {s : Shared} {K : PySem.W.Frag} {f : Addr} {self : Value} {name : PySem.Str} {args : List Value} {Q : Option Value → Shared → Prop} (X : K.In s.heap) (sp : PySem.W.Looks M s.heap (specialOf self name) (some (.ref f))) (ht : PySem.W.typeIn K (.ref f) = some (.type "function"))
    (hc : wpAny M A (call (.ref f) (self :: args)) (fun v => Q (some v)) E s) : wpAny M A (callSpecial? self name args) Q E s := by
  simp only [callSpecial?]
  refine wpAny_bind (sp.here ?_)
  refine wpAny_holding (wpAny_bind ((PySem.W.bind_fn X self ht).here ?_))
  exact wpAny_bind (wpAny_mono hc (fun v s' h' => wpAny_pure h') fun _ _ h' => h')
section
variable {X : Cx} {k : Nat} {f C : Addr} {sp : Sp} {E : XK}
theorem call_lenG (c : Cls X.K C) (hm : Meth X.K C "__len__" f) (F : FnG X.prog X.w X.K X.mg X.base k f sp) (hg : X.A.guards = some []) (hr : Room (k + 1) X.A) (hx : Passes (L2.CX X.prog X.w) X E) :
    CallR X (.builtin "len") (fun xs H Q => ∃ a dx fs, xs = [.ref a] ∧ H a = some (.ins C dx fs) ∧ sp [.ref a] H (fun v H' => ∃ n : Nat, v = .int (n : Nat) ∧ n < 2 ^ 62 ∧ Q (.int (n : Nat)) H') E) := by
  intro pins s σ H xs us Q I r h
  obtain ⟨a, dx, fs, rfl, ea, q⟩ := h
  obtain ⟨u, rfl, ru⟩ := vals1 r
  obtain rfl : u = Value.ref a := ru
  obtain ⟨mA, O, rr, wi, _, ho⟩ := ins_get I.hok ea
  have hty : PySem.W.typeIn X.K (.ref f) = some (.type "function") := beq_iff_eq.mp hm.fn
  have spl : PySem.W.Looks (model X.prog X.w) s.heap (specialOf (.ref a) "__len__") (some (.ref f)) := O.look.choose_spec.1.type.andThen (PySem.W.looks_findIn I.kIn hm.at_)
  refine Calls.call_function_entry kind_len plain_len entry_len (args_len1 _) ?_
  unfold Builtin.«len»
  refine wpAny_bind (m := oneArg "len" _) (wpAny_pure ?_)
  refine wpAny_bind (m := callSpecial? (.ref a) (PySem.Str.ofString "__len__")) (cspec_fn I.kIn spl hty ?_)
  refine wpAny_call (codeAny_mono (F X.A.in1 X.stack s H [.ref a] [.ref a] _ E hg hr.in1 I.env0.in1 (.cons rfl .nil) q) fun R s' hq => ?_)
  have z := res_of hx I hq
  cases R with
  | error e => exact z
  | ok fl =>
    cases fl with
    | ret u =>
      obtain ⟨v, H', I', rv, n, rfl, hn, q'⟩ := z
      obtain ⟨t, rfl⟩ := rv
      refine wpAny_bind (wpAny_holding (wpAny_pure ?_))
      refine wpAny_bind (wpAny_letGo ?_)
      show wpAny _ _ (if ((n : Nat) : Int) < 0 then _ else _) _ _ _
      rw [if_neg (by omega)]
      show wpAny _ _ (if ((n : Nat) : Int) ≥ 2 ^ 63 then _ else _) _ _ _
      rw [if_neg (by omega)]
      exact wpAny_bind (wpAny_mkInt (wpAny_pure ⟨_, rfl, .int (n : Nat), H', I'.tok _, ⟨_, rfl⟩, q'⟩))
    | _ => exact z
end
end Wl
set_option Elab.async false
set_option linter.all false
set_option maxRecDepth 100000
set_option maxHeartbeats 4000000
/-! xs.extend(a tuple) -/
namespace Wl
open PySem PySem.Spec PyProof.Rows L2
open PySem.AutoSeq1 (wpAny_loadPart')
theorem ext_tup (l : Addr) (items : Array Value) (n : Nat) (b : Addr) (od : Option Addr) (sl : Array (Option Value)) (items2 : Array Value) (n2 : Nat) (hs0 : ¬(!items.isEmpty && Builtin.List.listTooLong (items.size + items2.size)) = true) (hs1 : items.size ≤ sizeLine) (hs2 : items.size + items2.size ≤ sizeLine + 1) :
    Meets (Builtin.«list.extend» ⟨[.ref l, .ref b], []⟩) (fun _ R s => s.heap.get? l = some { cls := .type "list", dict := none, data := .seq items n, slots := #[] } ∧ s.heap.get? b = some { cls := .type "tuple", dict := od, data := .seq items2 n2, slots := sl } ∧ R (.ok (.ret Value.none)) { s with heap := s.heap.update l (Obj.mapSeq fun x => x ++ items2), toks := s.toks }) :=
  .of_wp fun prog w A R s h => by
    obtain ⟨hp, g, d, tk, os⟩ := s
    obtain ⟨hl, hb, h⟩ := h
    have f1 := AutoSeq1.idx_int
    have f2 := sub_tuple_tuple
    have f3 := sub_list_list
    have f4 := sub_tuple_list
    have f5 := sub_list_tuple
    have hz' : (items ++ items2).size ≤ sizeLine + 1 := by rw [Array.size_append]; exact hs2
    wp_walk using (wpAny_updateSeq hl rfl (hz := hs1) (_hz' := hz')), wpAny_loadPart' hl, wpAny_loadPart' hb
    exact ⟨_, rfl, h⟩
section
variable {X : Cx}
def rExtT (K : PySem.W.Frag) : V → List V → Hp → VK → Prop := fun x vs H Q => ∃ l b xs zs, x = .ref l ∧ vs = [.ref b] ∧ H l = some (.lst xs) ∧ SqT K H b zs ∧ xs.length + zs.length ≤ sizeLine ∧ Q .non (upd H l (.lst (xs ++ zs)))
theorem mt_extT : MtM X "list.extend" (rExtT X.K) := by
  intro pins s σ H x vs v us Q I rx rv h
  obtain ⟨l, b, xs, zs, rfl, rfl, hH, hB, hz, q⟩ := h
  cases rx
  obtain ⟨u, rfl, ru⟩ := rv.one
  cases ru
  obtain ⟨z, its, n, r, hl, e⟩ := I.lstM hH
  obtain ⟨its2, r2, p2, hz2⟩ := I.tuple hB
  obtain ⟨⟨oc, od, dt, sl⟩, e2, hc, n2, hd⟩ := id p2
  have hc : oc = .type "tuple" := hc
  have hd : dt = .seq its2.toArray n2 := hd
  subst hc hd
  have hl2 := r2.length
  have hsz : its.toArray.size + its2.toArray.size ≤ sizeLine := by rw [List.size_toArray, List.size_toArray]; omega
  have hlong : ¬ (!its.toArray.isEmpty && Builtin.List.listTooLong (its.toArray.size + its2.toArray.size)) = true := by
    rw [notLongL hsz, Bool.and_false]
    exact Bool.false_ne_true
  refine call_meets F.slot_list_extend ⟨_, e, rfl⟩ F.entry_list_extend (F.args_list_extend_2 _ _)
    (ext_tup l its.toArray n b od sl its2.toArray n2 hlong (by rw [List.size_toArray]; omega) (by omega)) ⟨e, e2, ?_⟩
  refine ⟨.non, _, I.lset (its' := its ++ its2) hH e (by simp) (r.append r2) ?_, rfl, q⟩
  rw [List.length_append]
  omega
end
end Wl
set_option Elab.async false
set_option linter.all false
set_option maxRecDepth 100000
set_option maxHeartbeats 4000000
/-! small data, and its text -/
namespace Wl
open PySem PySem.Spec PyProof.Rows L2
structure Small (d : PyData) (k n : Nat) : Prop where
  able : d.showable = true
  nod : d.hasDict = false
  dep : d.depth ≤ k
  len : d.shown.length ≤ n
theorem Small.mono {d : PyData} {k n k' n' : Nat} (s : Small d k n) (h1 : k ≤ k') (h2 : n ≤ n') : Small d k' n' := ⟨s.able, s.nod, Nat.le_trans s.dep h1, Nat.le_trans s.len h2⟩
theorem able_all : ∀ {ds : List PyData}, (∀ d ∈ ds, d.showable = true) → PyData.showableAll ds = true
  | [], _ => rfl
  | d :: r, h => by
    show (d.showable && PyData.showableAll r) = true
    rw [h d List.mem_cons_self, able_all fun e he => h e (List.mem_cons_of_mem _ he)]
    rfl
theorem nod_all : ∀ {ds : List PyData}, (∀ d ∈ ds, d.hasDict = false) → PyData.hasDictAll ds = false
  | [], _ => rfl
  | d :: r, h => by
    show (d.hasDict || PyData.hasDictAll r) = false
    rw [h d List.mem_cons_self, nod_all fun e he => h e (List.mem_cons_of_mem _ he)]
    rfl
theorem dep_all {k : Nat} : ∀ {ds : List PyData}, (∀ d ∈ ds, d.depth ≤ k) → PyData.depthAll ds ≤ k
  | [], _ => Nat.zero_le _
  | d :: r, h => by
    have h1 := h d List.mem_cons_self
    have h2 := dep_all (ds := r) fun e he => h e (List.mem_cons_of_mem _ he)
    show Nat.max _ _ ≤ k
    exact Nat.max_le.mpr ⟨h1, h2⟩
theorem piled_all {n : Nat} : ∀ {ds : List PyData}, (∀ d ∈ ds, d.shown.length ≤ n) → piled (PyData.shownAll ds) ≤ ds.length * (n + 2)
  | [], _ => Nat.zero_le _
  | d :: r, h => by
    have h1 := h d List.mem_cons_self
    have h2 := piled_all (ds := r) fun e he => h e (List.mem_cons_of_mem _ he)
    show piled (d.shown :: PyData.shownAll r) ≤ (r.length + 1) * (n + 2)
    rw [piled_cons, Nat.add_mul]
    omega
theorem textFrom_up : ∀ (ts : List Str) (k : Nat) (acc : Str), (textFrom k acc ts).length ≤ acc.length + piled ts
  | [], _, acc => Nat.le_add_right _ _
  | t :: r, k, acc => by
    have h := textFrom_up r (k + 1) (acc ++ (if k > 0 then ", " else "" : String) ++ t)
    have e : (acc ++ ((if k > 0 then ", " else "" : String) : Str) ++ t).length ≤ acc.length + 2 + t.length := by
      rw [Str.length_append, Str.length_append]
      have : ((if k > 0 then ", " else "" : String) : Str).length ≤ 2 := by
        by_cases q : k > 0
        · rw [if_pos q]
          exact (by decide +kernel)
        · rw [if_neg q]
          exact (by decide +kernel)
      omega
    rw [piled_cons]
    show (textFrom (k + 1) (acc ++ (if k > 0 then ", " else "" : String) ++ t) r).length ≤ _
    omega
theorem small_list {ds : List PyData} {k n : Nat} (h : ∀ d ∈ ds, Small d k n) : Small (.list ds) (k + 1) (2 + ds.length * (n + 2)) := by
  refine ⟨able_all fun d hd => (h d hd).able, nod_all fun d hd => (h d hd).nod, ?_, ?_⟩
  · have := dep_all (k := k) fun d hd => (h d hd).dep
    show PyData.depthAll ds + 1 ≤ k + 1
    omega
  · have h1 := piled_all (n := n) fun d hd => (h d hd).len
    have h2 := textFrom_up (PyData.shownAll ds) 0 "["
    have e1 : (("[" : String) : Str).length = 1 := by decide +kernel
    have e2 : (("]" : String) : Str).length = 1 := by decide +kernel
    show (textFrom 0 "[" (PyData.shownAll ds) ++ "]").length ≤ _
    rw [Str.length_append]
    omega
theorem small_tup {ds : List PyData} {k n : Nat} (h : ∀ d ∈ ds, Small d k n) : Small (.tuple ds) (k + 1) (3 + ds.length * (n + 2)) := by
  refine ⟨able_all fun d hd => (h d hd).able, nod_all fun d hd => (h d hd).nod, ?_, ?_⟩
  · have := dep_all (k := k) fun d hd => (h d hd).dep
    show PyData.depthAll ds + 1 ≤ k + 1
    omega
  · have h1 := piled_all (n := n) fun d hd => (h d hd).len
    have e1 : (("(" : String) : Str).length = 1 := by decide +kernel
    have h2 : (Str.join ", " (PyData.shownAll ds)).length ≤ piled (PyData.shownAll ds) := by
      by_cases q : PyData.shownAll ds = []
      · rw [q]
        exact (by decide +kernel)
      · have := join_length_add (PyData.shownAll ds) q
        omega
    have h3 : ((if (PyData.shownAll ds).length == 1 then ",)" else ")" : String) : Str).length ≤ 2 := by
      cases (PyData.shownAll ds).length == 1
      · exact (by decide +kernel)
      · exact (by decide +kernel)
    show (("(" : Str) ++ Str.join ", " (PyData.shownAll ds) ++ ((if (PyData.shownAll ds).length == 1 then ",)" else ")" : String) : Str)).length ≤ _
    rw [Str.length_append, Str.length_append]
    omega
section
variable {X : Cx}
/-- repr of an int, a tuple or a list -/
theorem call_reprD (hg : X.A.guards = some []) (hu : X.A.units + 70 < cLine) : CallR X (.builtin "repr") (fun xs H Q => ∃ v d, xs = [v] ∧ Dp X.K H v d ∧ Small d 60 sizeLine ∧ ((∃ i, v = .int i) ∨ ∃ a, v = .ref a) ∧ Q (.str d.shown) H) := by
  intro pins s σ H xs us Q I rv ⟨v, d, ex, hd, sm, hk, q⟩
  subst ex
  rcases hk with ⟨i, rfl⟩ | ⟨a, rfl⟩
  · cases hd
    exact SkE.call_repr_int pins s σ H _ us Q I rv ⟨i, rfl, of_decide_eq_true sm.able, q⟩
  · exact call_repr hg hu pins s σ H _ us Q I rv ⟨a, d, rfl, hd, sm.able, sm.nod, sm.dep, sm.len, q⟩
end
end Wl
set_option Elab.async false
set_option linter.all false
set_option maxRecDepth 100000
set_option maxHeartbeats 4000000
/-! displays of data -/
namespace Wl
open PySem PySem.Spec PyProof.Rows L2
def Gives (K : PySem.W.Frag) (t : TE) (σ : L2.St) (R0 : Hp) (d : PyData) : Prop := ∀ (R H : Hp) (Q : VK), L2.Same R0 R → L2.Same R H → (∀ v R' H', Grow [] R H R' H' → Dp K R' v d → Q v H') → t σ H Q
def GivesA (K : PySem.W.Frag) (t : TA) (σ : L2.St) (R0 : Hp) (ds : List PyData) : Prop := ∀ (R H : Hp) (Q : List V → Hp → Prop), L2.Same R0 R → L2.Same R H → (∀ vs R' H', Grow [] R H R' H' → DpAll K R' vs ds → Q vs H') → t σ H Q
section
variable {K : PySem.W.Frag} {σ : L2.St} {R0 : Hp} {t : TE} {ta : TA} {d : PyData} {ds : List PyData}
theorem gv_c {v : V} (h : ∀ R, Dp K R v d) : Gives K (tC v) σ R0 d := fun R H Q e1 e2 k => k v R H (.refl e2) (h R)
theorem gv_non : Gives K (tC .non) σ R0 .none := gv_c fun _ => .non
theorem gv_int {i : Int} : Gives K (tC (.int i)) σ R0 (.int i) := gv_c fun _ => .int i
theorem gv_str {z : Str} : Gives K (tC (.str z)) σ R0 (.str z) := gv_c fun _ => .str z
theorem gv_bl {b : Bool} : Gives K (tC (.bl b)) σ R0 (.bool b) := gv_c fun _ => .bl b
/-- an expression that gives a whole number -/
theorem gv_num {i : Int} (h : ∀ (H : Hp) (Q : VK), Q (.int i) H → t σ H Q) : Gives K t σ R0 (.int i) := fun R H Q e1 e2 k => h H Q (k _ R H (.refl e2) (.int i))
theorem gv_var {i : Nat} {v : V} (hs : σ[i]? = some (some v)) (h : Dp K R0 v d) : Gives K (tVar i) σ R0 d := fun R H Q e1 e2 k => ⟨v, hs, k v R H (.refl e2) (dp_same e1 h)⟩
theorem gv_nil : GivesA K tNil σ R0 [] := fun R H Q e1 e2 k => k [] R H (.refl e2) .nil
theorem gv_cons (h : Gives K t σ R0 d) (h2 : GivesA K ta σ R0 ds) : GivesA K (tCons t ta) σ R0 (d :: ds) := fun R H Q e1 e2 k => h R H _ e1 e2 fun v R1 H1 g1 hv => h2 R1 H1 _ (e1.trans g1.same) g1.sub fun vs R2 H2 g2 hvs => k (v :: vs) R2 H2 (g1.trans g2) (.cons (dp_same g2.same hv) hvs)
theorem gv_tup (h : GivesA K ta σ R0 ds) (hz : ds.length ≤ 1000 := by decide) : Gives K (tTup ta) σ R0 (.tuple ds) := fun R H Q e1 e2 k => h R H _ e1 e2 fun vs R1 H1 g1 hvs => by
  refine ⟨by rw [dpAll_length hvs, sizeLine_eq]; omega, fun p hp => k _ (upd R1 p (.tup vs)) _ (g1.add hp) (.tup (SqT.of upd_same) (dpAll_same (same_new (L2.Same.refl _) (g1.rnone hp)) hvs))⟩
theorem gv_lst (h : GivesA K ta σ R0 ds) (hz : ds.length ≤ 1000 := by decide) : Gives K (tLst ta) σ R0 (.list ds) := fun R H Q e1 e2 k => h R H _ e1 e2 fun vs R1 H1 g1 hvs => by
  refine ⟨by rw [dpAll_length hvs, sizeLine_eq]; omega, fun p hp => k _ (upd R1 p (.lst vs)) _ (g1.add hp) (.lst (SqL.of upd_same) (dpAll_same (same_new (L2.Same.refl _) (g1.rnone hp)) hvs))⟩
/-- a display whose list will change -/
theorem gv_cell (h : GivesA K ta σ R0 ds) (hz : ds.length ≤ 1000) {R H : Hp} {Q : VK} (e1 : L2.Same R0 R) (e2 : L2.Same R H) (k : ∀ p vs R' H', Grow [] R H R' H' → H' p = some (.lst vs) → R' p = none → H p = none → DpAll K R' vs ds → Q (.ref p) H') : tLst ta σ H Q :=
  h R H _ e1 e2 fun vs R1 H1 g1 hvs => ⟨by rw [dpAll_length hvs, sizeLine_eq]; omega, fun p hp => k p vs R1 _ (g1.cellN hp) upd_same (g1.rnone hp) (g1.none hp) hvs⟩
end
end Wl
set_option Elab.async false
set_option linter.all false
set_option maxRecDepth 100000
set_option maxHeartbeats 4000000
/-! a call whose error a try around it may catch -/
namespace Wl
open PySem PySem.Spec PyProof.Rows L2
section
variable {X : Cx} {k : Nat} {f : Addr} {sp : Sp} {x : Str} {e : Expr} {es : List Expr} {t : TA} {p pos : Pos} {W : WX}
def tCW (sp : Sp) (W : WX) (t : TA) : TE := fun σ H Q => t σ H fun vs H1 => sp vs H1 Q fun c d H2 => W c d σ H2
theorem pe_gfW (F : FnG X.prog X.w X.K X.mg X.base k f sp) (hgd : X.A.guards = some []) (hr : Room k X.A) (tk : Takes X W) (hg : Gl X x) (hm : X.mg x = some (.ref f)) (hk : PySem.W.keepIn X.K (.ref f) = true) (ha : PA X (e :: es) t) (hdb : (x == ("__debug__" : Str)) = false := by decide)
    (he : starEach (e :: es) X.env = (false, eval e X.env) :: starEach es X.env := by rfl) (hpl : (backTo pos (starEach es X.env)).any (·.1) = false := by rfl) : PE X (.Call (.Name x p) (e :: es) [] pos) (tCW sp W t) := by
  refine ⟨fun pins s σ H Q I h => wpAny_Call_Name_kw (ld_glob I hg hm ?_ hdb)⟩
  refine PySem.W.callWith_K (h₀ := X.base) I.ok.mod.kin hk (thn (ha.run pos pins s σ H _ I h) fun us s1 ⟨vs, H1, I1, rv, q⟩ => ⟨I1.kIn, ?_⟩) he hpl
  show wpAny _ _ (call (.ref f) us) _ _ _
  refine wpAny_call (codeAny_mono (F X.A X.stack s1 H1 us vs Q _ hgd hr I1.env0 rv q) fun R s' hq => ?_)
  cases R with
  | error er => exact passAt tk σ pins H1 s1 er s' I1 hq
  | ok fl =>
    cases fl with
    | ret u => exact I1.after hq
    | next => exact False.elim hq
    | brk => exact False.elim hq
    | cont => exact False.elim hq
end
end Wl
set_option Elab.async false
set_option linter.all false
set_option maxRecDepth 100000
set_option maxHeartbeats 0
namespace Wn
open PySem PySem.Spec PyProof.Rows L2
def top (i : Nat) : Stmt := PySem.Challenge.pw_waitnumbers_k74_steps_that_are_none.main.body.getD i (.Pass ⟨0, 0, 0, 0⟩)
abbrev c_NoProcess : Addr := 38
abbrev s_NoProcess_init : Stmt := inClass (top 2) 0
abbrev a_NoProcess_init : Addr := 35
abbrev d_NoProcess_init : Hd.DA := ⟨a_NoProcess_init, "__init__", "NoProcess.__init__", defArgs s_NoProcess_init, defBody s_NoProcess_init, defScope s_NoProcess_init, [], []⟩
abbrev c_NotOpen : Addr := 58
abbrev s_NotOpen_init : Stmt := inClass (top 3) 0
abbrev a_NotOpen_init : Addr := 55
abbrev d_NotOpen_init : Hd.DA := ⟨a_NotOpen_init, "__init__", "NotOpen.__init__", defArgs s_NotOpen_init, defBody s_NotOpen_init, defScope s_NotOpen_init, [], []⟩
abbrev c_NoNumber : Addr := 78
abbrev s_NoNumber_init : Stmt := inClass (top 4) 0
abbrev a_NoNumber_init : Addr := 75
abbrev d_NoNumber_init : Hd.DA := ⟨a_NoNumber_init, "__init__", "NoNumber.__init__", defArgs s_NoNumber_init, defBody s_NoNumber_init, defScope s_NoNumber_init, [], []⟩
abbrev c_NotRegistered : Addr := 98
abbrev s_NotRegistered_init : Stmt := inClass (top 5) 0
abbrev a_NotRegistered_init : Addr := 95
abbrev d_NotRegistered_init : Hd.DA := ⟨a_NotRegistered_init, "__init__", "NotRegistered.__init__", defArgs s_NotRegistered_init, defBody s_NotRegistered_init, defScope s_NotRegistered_init, [], []⟩
abbrev c_NotASource : Addr := 118
abbrev s_NotASource_init : Stmt := inClass (top 6) 0
abbrev a_NotASource_init : Addr := 115
abbrev d_NotASource_init : Hd.DA := ⟨a_NotASource_init, "__init__", "NotASource.__init__", defArgs s_NotASource_init, defBody s_NotASource_init, defScope s_NotASource_init, [], []⟩
abbrev c_NotASet : Addr := 138
abbrev s_NotASet_init : Stmt := inClass (top 7) 0
abbrev a_NotASet_init : Addr := 135
abbrev d_NotASet_init : Hd.DA := ⟨a_NotASet_init, "__init__", "NotASet.__init__", defArgs s_NotASet_init, defBody s_NotASet_init, defScope s_NotASet_init, [], []⟩
abbrev c_BadCall : Addr := 158
abbrev s_BadCall_init : Stmt := inClass (top 8) 0
abbrev a_BadCall_init : Addr := 155
abbrev d_BadCall_init : Hd.DA := ⟨a_BadCall_init, "__init__", "BadCall.__init__", defArgs s_BadCall_init, defBody s_BadCall_init, defScope s_BadCall_init, [], []⟩
abbrev c_BadStep : Addr := 178
abbrev s_BadStep_init : Stmt := inClass (top 9) 0
abbrev a_BadStep_init : Addr := 175
abbrev d_BadStep_init : Hd.DA := ⟨a_BadStep_init, "__init__", "BadStep.__init__", defArgs s_BadStep_init, defBody s_BadStep_init, defScope s_BadStep_init, [], []⟩
abbrev c_BadCount : Addr := 198
abbrev s_BadCount_init : Stmt := inClass (top 10) 0
abbrev a_BadCount_init : Addr := 195
abbrev d_BadCount_init : Hd.DA := ⟨a_BadCount_init, "__init__", "BadCount.__init__", defArgs s_BadCount_init, defBody s_BadCount_init, defScope s_BadCount_init, [], []⟩
abbrev c_BadLabel : Addr := 218
abbrev s_BadLabel_init : Stmt := inClass (top 11) 0
abbrev a_BadLabel_init : Addr := 215
abbrev d_BadLabel_init : Hd.DA := ⟨a_BadLabel_init, "__init__", "BadLabel.__init__", defArgs s_BadLabel_init, defBody s_BadLabel_init, defScope s_BadLabel_init, [], []⟩
abbrev c_BadWord : Addr := 238
abbrev s_BadWord_init : Stmt := inClass (top 12) 0
abbrev a_BadWord_init : Addr := 235
abbrev d_BadWord_init : Hd.DA := ⟨a_BadWord_init, "__init__", "BadWord.__init__", defArgs s_BadWord_init, defBody s_BadWord_init, defScope s_BadWord_init, [], []⟩
abbrev c_BadLimit : Addr := 258
abbrev s_BadLimit_init : Stmt := inClass (top 13) 0
abbrev a_BadLimit_init : Addr := 255
abbrev d_BadLimit_init : Hd.DA := ⟨a_BadLimit_init, "__init__", "BadLimit.__init__", defArgs s_BadLimit_init, defBody s_BadLimit_init, defScope s_BadLimit_init, [], []⟩
abbrev c_Full : Addr := 278
abbrev s_Full_init : Stmt := inClass (top 14) 0
abbrev a_Full_init : Addr := 275
abbrev d_Full_init : Hd.DA := ⟨a_Full_init, "__init__", "Full.__init__", defArgs s_Full_init, defBody s_Full_init, defScope s_Full_init, [], []⟩
abbrev c_NoRoom : Addr := 298
abbrev s_NoRoom_init : Stmt := inClass (top 15) 0
abbrev a_NoRoom_init : Addr := 295
abbrev d_NoRoom_init : Hd.DA := ⟨a_NoRoom_init, "__init__", "NoRoom.__init__", defArgs s_NoRoom_init, defBody s_NoRoom_init, defScope s_NoRoom_init, [], []⟩
abbrev c_Finished : Addr := 318
abbrev s_Finished_init : Stmt := inClass (top 16) 0
abbrev a_Finished_init : Addr := 315
abbrev d_Finished_init : Hd.DA := ⟨a_Finished_init, "__init__", "Finished.__init__", defArgs s_Finished_init, defBody s_Finished_init, defScope s_Finished_init, [], []⟩
abbrev c_Registered : Addr := 338
abbrev s_Registered_init : Stmt := inClass (top 17) 0
abbrev a_Registered_init : Addr := 335
abbrev d_Registered_init : Hd.DA := ⟨a_Registered_init, "__init__", "Registered.__init__", defArgs s_Registered_init, defBody s_Registered_init, defScope s_Registered_init, [], []⟩
abbrev c_Taken : Addr := 358
abbrev s_Taken_init : Stmt := inClass (top 18) 0
abbrev a_Taken_init : Addr := 355
abbrev d_Taken_init : Hd.DA := ⟨a_Taken_init, "__init__", "Taken.__init__", defArgs s_Taken_init, defBody s_Taken_init, defScope s_Taken_init, [], []⟩
abbrev s_is_integer : Stmt := top 25
abbrev a_is_integer : Addr := 368
abbrev d_is_integer : Hd.DA := ⟨a_is_integer, "is_integer", "is_integer", defArgs s_is_integer, defBody s_is_integer, defScope s_is_integer, [], []⟩
abbrev s_is_between : Stmt := top 26
abbrev a_is_between : Addr := 375
abbrev d_is_between : Hd.DA := ⟨a_is_between, "is_between", "is_between", defArgs s_is_between, defBody s_is_between, defScope s_is_between, [], []⟩
abbrev c_Source : Addr := 423
abbrev s_Source_init : Stmt := inClass (top 27) 0
abbrev a_Source_init : Addr := 390
abbrev d_Source_init : Hd.DA := ⟨a_Source_init, "__init__", "Source.__init__", defArgs s_Source_init, defBody s_Source_init, defScope s_Source_init, [V.int 0, V.bl false], []⟩
abbrev s_Source_kind : Stmt := inClass (top 27) 1
abbrev a_Source_kind : Addr := 397
abbrev d_Source_kind : Hd.DA := ⟨a_Source_kind, "kind", "Source.kind", defArgs s_Source_kind, defBody s_Source_kind, defScope s_Source_kind, [], []⟩
abbrev p_Source_kind : Addr := 398
abbrev s_Source_is_ready : Stmt := inClass (top 27) 2
abbrev a_Source_is_ready : Addr := 405
abbrev d_Source_is_ready : Hd.DA := ⟨a_Source_is_ready, "is_ready", "Source.is_ready", defArgs s_Source_is_ready, defBody s_Source_is_ready, defScope s_Source_is_ready, [], []⟩
abbrev p_Source_is_ready : Addr := 406
abbrev s_Source_taken : Stmt := inClass (top 27) 3
abbrev a_Source_taken : Addr := 413
abbrev d_Source_taken : Hd.DA := ⟨a_Source_taken, "taken", "Source.taken", defArgs s_Source_taken, defBody s_Source_taken, defScope s_Source_taken, [], []⟩
abbrev s_Source_twin : Stmt := inClass (top 27) 4
abbrev a_Source_twin : Addr := 420
abbrev d_Source_twin : Hd.DA := ⟨a_Source_twin, "twin", "Source.twin", defArgs s_Source_twin, defBody s_Source_twin, defScope s_Source_twin, [], []⟩
abbrev c_Entry : Addr := 452
abbrev s_Entry_init : Stmt := inClass (top 28) 0
abbrev a_Entry_init : Addr := 442
abbrev d_Entry_init : Hd.DA := ⟨a_Entry_init, "__init__", "Entry.__init__", defArgs s_Entry_init, defBody s_Entry_init, defScope s_Entry_init, [V.bl true], []⟩
abbrev s_Entry_twin : Stmt := inClass (top 28) 1
abbrev a_Entry_twin : Addr := 449
abbrev d_Entry_twin : Hd.DA := ⟨a_Entry_twin, "twin", "Entry.twin", defArgs s_Entry_twin, defBody s_Entry_twin, defScope s_Entry_twin, [], []⟩
abbrev c_WaitSet : Addr := 517
abbrev s_WaitSet_init : Stmt := inClass (top 29) 0
abbrev a_WaitSet_init : Addr := 470
abbrev d_WaitSet_init : Hd.DA := ⟨a_WaitSet_init, "__init__", "WaitSet.__init__", defArgs s_WaitSet_init, defBody s_WaitSet_init, defScope s_WaitSet_init, [], []⟩
abbrev s_WaitSet_kind : Stmt := inClass (top 29) 1
abbrev a_WaitSet_kind : Addr := 477
abbrev d_WaitSet_kind : Hd.DA := ⟨a_WaitSet_kind, "kind", "WaitSet.kind", defArgs s_WaitSet_kind, defBody s_WaitSet_kind, defScope s_WaitSet_kind, [], []⟩
abbrev p_WaitSet_kind : Addr := 478
abbrev s_WaitSet_keyed : Stmt := inClass (top 29) 2
abbrev a_WaitSet_keyed : Addr := 485
abbrev d_WaitSet_keyed : Hd.DA := ⟨a_WaitSet_keyed, "keyed", "WaitSet.keyed", defArgs s_WaitSet_keyed, defBody s_WaitSet_keyed, defScope s_WaitSet_keyed, [], []⟩
abbrev s_WaitSet_labelled : Stmt := inClass (top 29) 3
abbrev a_WaitSet_labelled : Addr := 492
abbrev d_WaitSet_labelled : Hd.DA := ⟨a_WaitSet_labelled, "labelled", "WaitSet.labelled", defArgs s_WaitSet_labelled, defBody s_WaitSet_labelled, defScope s_WaitSet_labelled, [], []⟩
abbrev s_WaitSet_append_pending : Stmt := inClass (top 29) 4
abbrev a_WaitSet_append_pending : Addr := 499
abbrev d_WaitSet_append_pending : Hd.DA := ⟨a_WaitSet_append_pending, "append_pending", "WaitSet.append_pending", defArgs s_WaitSet_append_pending, defBody s_WaitSet_append_pending, defScope s_WaitSet_append_pending, [], []⟩
abbrev s_WaitSet_drop : Stmt := inClass (top 29) 5
abbrev a_WaitSet_drop : Addr := 504
abbrev d_WaitSet_drop : Hd.DA := ⟨a_WaitSet_drop, "drop", "WaitSet.drop", defArgs s_WaitSet_drop, defBody s_WaitSet_drop, defScope s_WaitSet_drop, [], []⟩
abbrev s_WaitSet_forget : Stmt := inClass (top 29) 6
abbrev a_WaitSet_forget : Addr := 509
abbrev d_WaitSet_forget : Hd.DA := ⟨a_WaitSet_forget, "forget", "WaitSet.forget", defArgs s_WaitSet_forget, defBody s_WaitSet_forget, defScope s_WaitSet_forget, [], []⟩
abbrev s_WaitSet_twin : Stmt := inClass (top 29) 7
abbrev a_WaitSet_twin : Addr := 514
abbrev d_WaitSet_twin : Hd.DA := ⟨a_WaitSet_twin, "twin", "WaitSet.twin", defArgs s_WaitSet_twin, defBody s_WaitSet_twin, defScope s_WaitSet_twin, [], []⟩
abbrev a_ARGUMENTS : Addr := 522
abbrev kv_ARGUMENTS : List (Str × V) := [("new_source", V.ref 523), ("new_set", V.ref 524), ("copy", V.ref 525), ("close", V.ref 526), ("fork", V.ref 527), ("end", V.ref 528), ("arrive", V.ref 529), ("finish", V.ref 530), ("read", V.ref 531), ("add", V.ref 532), ("change", V.ref 533), ("remove", V.ref 534), ("wait", V.ref 535), ("numbers", V.ref 536), ("same", V.ref 537), ("units", V.ref 538)]
abbrev s_is_call : Stmt := top 32
abbrev a_is_call : Addr := 545
abbrev d_is_call : Hd.DA := ⟨a_is_call, "is_call", "is_call", defArgs s_is_call, defBody s_is_call, defScope s_is_call, [], []⟩
abbrev s_look_count : Stmt := top 38
abbrev a_look_count : Addr := 552
abbrev d_look_count : Hd.DA := ⟨a_look_count, "look_count", "look_count", defArgs s_look_count, defBody s_look_count, defScope s_look_count, [], []⟩
abbrev s_look_word : Stmt := top 39
abbrev a_look_word : Addr := 559
abbrev d_look_word : Hd.DA := ⟨a_look_word, "look_word", "look_word", defArgs s_look_word, defBody s_look_word, defScope s_look_word, [], []⟩
abbrev c_System : Addr := 892
abbrev s_System_init : Stmt := inClass (top 40) 2
abbrev a_System_init : Addr := 574
abbrev d_System_init : Hd.DA := ⟨a_System_init, "__init__", "System.__init__", defArgs s_System_init, defBody s_System_init, defScope s_System_init, [], [("processes", V.int 4), ("numbers", V.int 8)]⟩
abbrev s_System_limits : Stmt := inClass (top 40) 4
abbrev a_System_limits : Addr := 592
abbrev d_System_limits : Hd.DA := ⟨a_System_limits, "limits", "System.limits", defArgs s_System_limits, defBody s_System_limits, defScope s_System_limits, [], []⟩
abbrev p_System_limits : Addr := 593
abbrev s_System_alive : Stmt := inClass (top 40) 5
abbrev a_System_alive : Addr := 600
abbrev d_System_alive : Hd.DA := ⟨a_System_alive, "alive", "System.alive", defArgs s_System_alive, defBody s_System_alive, defScope s_System_alive, [], []⟩
abbrev s_System_table_of : Stmt := inClass (top 40) 6
abbrev a_System_table_of : Addr := 607
abbrev d_System_table_of : Hd.DA := ⟨a_System_table_of, "table_of", "System.table_of", defArgs s_System_table_of, defBody s_System_table_of, defScope s_System_table_of, [], []⟩
abbrev s_System_serial_at : Stmt := inClass (top 40) 7
abbrev a_System_serial_at : Addr := 614
abbrev d_System_serial_at : Hd.DA := ⟨a_System_serial_at, "serial_at", "System.serial_at", defArgs s_System_serial_at, defBody s_System_serial_at, defScope s_System_serial_at, [], []⟩
abbrev s_System_source_at : Stmt := inClass (top 40) 8
abbrev a_System_source_at : Addr := 621
abbrev d_System_source_at : Hd.DA := ⟨a_System_source_at, "source_at", "System.source_at", defArgs s_System_source_at, defBody s_System_source_at, defScope s_System_source_at, [], []⟩
abbrev s_System_set_at : Stmt := inClass (top 40) 9
abbrev a_System_set_at : Addr := 628
abbrev d_System_set_at : Hd.DA := ⟨a_System_set_at, "set_at", "System.set_at", defArgs s_System_set_at, defBody s_System_set_at, defScope s_System_set_at, [], []⟩
abbrev s_System_holders : Stmt := inClass (top 40) 10
abbrev a_System_holders : Addr := 633
abbrev d_System_holders : Hd.DA := ⟨a_System_holders, "holders", "System.holders", defArgs s_System_holders, defBody s_System_holders, defScope s_System_holders, [], []⟩
abbrev s_System_name_of : Stmt := inClass (top 40) 11
abbrev a_System_name_of : Addr := 640
abbrev d_System_name_of : Hd.DA := ⟨a_System_name_of, "name_of", "System.name_of", defArgs s_System_name_of, defBody s_System_name_of, defScope s_System_name_of, [], []⟩
abbrev s_System_serial_named : Stmt := inClass (top 40) 12
abbrev a_System_serial_named : Addr := 647
abbrev d_System_serial_named : Hd.DA := ⟨a_System_serial_named, "serial_named", "System.serial_named", defArgs s_System_serial_named, defBody s_System_serial_named, defScope s_System_serial_named, [], []⟩
abbrev s_System_set_serials : Stmt := inClass (top 40) 13
abbrev a_System_set_serials : Addr := 652
abbrev d_System_set_serials : Hd.DA := ⟨a_System_set_serials, "set_serials", "System.set_serials", defArgs s_System_set_serials, defBody s_System_set_serials, defScope s_System_set_serials, [], []⟩
abbrev s_System_found_entry : Stmt := inClass (top 40) 14
abbrev a_System_found_entry : Addr := 659
abbrev d_System_found_entry : Hd.DA := ⟨a_System_found_entry, "found_entry", "System.found_entry", defArgs s_System_found_entry, defBody s_System_found_entry, defScope s_System_found_entry, [], []⟩
abbrev s_System_lowest_free : Stmt := inClass (top 40) 15
abbrev a_System_lowest_free : Addr := 666
abbrev d_System_lowest_free : Hd.DA := ⟨a_System_lowest_free, "lowest_free", "System.lowest_free", defArgs s_System_lowest_free, defBody s_System_lowest_free, defScope s_System_lowest_free, [], []⟩
abbrev s_System_placed : Stmt := inClass (top 40) 16
abbrev a_System_placed : Addr := 673
abbrev d_System_placed : Hd.DA := ⟨a_System_placed, "placed", "System.placed", defArgs s_System_placed, defBody s_System_placed, defScope s_System_placed, [], []⟩
abbrev s_System_new_source : Stmt := inClass (top 40) 17
abbrev a_System_new_source : Addr := 680
abbrev d_System_new_source : Hd.DA := ⟨a_System_new_source, "new_source", "System.new_source", defArgs s_System_new_source, defBody s_System_new_source, defScope s_System_new_source, [], []⟩
abbrev s_System_new_set : Stmt := inClass (top 40) 18
abbrev a_System_new_set : Addr := 687
abbrev d_System_new_set : Hd.DA := ⟨a_System_new_set, "new_set", "System.new_set", defArgs s_System_new_set, defBody s_System_new_set, defScope s_System_new_set, [], []⟩
abbrev s_System_copy : Stmt := inClass (top 40) 19
abbrev a_System_copy : Addr := 695
abbrev d_System_copy : Hd.DA := ⟨a_System_copy, "copy", "System.copy", defArgs s_System_copy, defBody s_System_copy, defScope s_System_copy, [V.non], []⟩
abbrev s_System_close : Stmt := inClass (top 40) 20
abbrev a_System_close : Addr := 702
abbrev d_System_close : Hd.DA := ⟨a_System_close, "close", "System.close", defArgs s_System_close, defBody s_System_close, defScope s_System_close, [], []⟩
abbrev s_System_fork : Stmt := inClass (top 40) 21
abbrev a_System_fork : Addr := 707
abbrev d_System_fork : Hd.DA := ⟨a_System_fork, "fork", "System.fork", defArgs s_System_fork, defBody s_System_fork, defScope s_System_fork, [], []⟩
abbrev s_System_end : Stmt := inClass (top 40) 22
abbrev a_System_end : Addr := 714
abbrev d_System_end : Hd.DA := ⟨a_System_end, "end", "System.end", defArgs s_System_end, defBody s_System_end, defScope s_System_end, [], []⟩
abbrev s_System_pend : Stmt := inClass (top 40) 23
abbrev a_System_pend : Addr := 721
abbrev d_System_pend : Hd.DA := ⟨a_System_pend, "pend", "System.pend", defArgs s_System_pend, defBody s_System_pend, defScope s_System_pend, [], []⟩
abbrev s_System_arrive : Stmt := inClass (top 40) 24
abbrev a_System_arrive : Addr := 729
abbrev d_System_arrive : Hd.DA := ⟨a_System_arrive, "arrive", "System.arrive", defArgs s_System_arrive, defBody s_System_arrive, defScope s_System_arrive, [V.int 1], []⟩
abbrev s_System_finish : Stmt := inClass (top 40) 25
abbrev a_System_finish : Addr := 736
abbrev d_System_finish : Hd.DA := ⟨a_System_finish, "finish", "System.finish", defArgs s_System_finish, defBody s_System_finish, defScope s_System_finish, [], []⟩
abbrev s_System_read : Stmt := inClass (top 40) 26
abbrev a_System_read : Addr := 744
abbrev d_System_read : Hd.DA := ⟨a_System_read, "read", "System.read", defArgs s_System_read, defBody s_System_read, defScope s_System_read, [V.non], []⟩
abbrev s_System_add : Stmt := inClass (top 40) 27
abbrev a_System_add : Addr := 752
abbrev d_System_add : Hd.DA := ⟨a_System_add, "add", "System.add", defArgs s_System_add, defBody s_System_add, defScope s_System_add, [], [("word", V.str "level")]⟩
abbrev s_System_keyed_entry : Stmt := inClass (top 40) 28
abbrev a_System_keyed_entry : Addr := 759
abbrev d_System_keyed_entry : Hd.DA := ⟨a_System_keyed_entry, "keyed_entry", "System.keyed_entry", defArgs s_System_keyed_entry, defBody s_System_keyed_entry, defScope s_System_keyed_entry, [], []⟩
abbrev s_System_change : Stmt := inClass (top 40) 29
abbrev a_System_change : Addr := 766
abbrev d_System_change : Hd.DA := ⟨a_System_change, "change", "System.change", defArgs s_System_change, defBody s_System_change, defScope s_System_change, [], []⟩
abbrev s_System_remove : Stmt := inClass (top 40) 30
abbrev a_System_remove : Addr := 773
abbrev d_System_remove : Hd.DA := ⟨a_System_remove, "remove", "System.remove", defArgs s_System_remove, defBody s_System_remove, defScope s_System_remove, [], []⟩
abbrev s_System_wait : Stmt := inClass (top 40) 31
abbrev a_System_wait : Addr := 781
abbrev d_System_wait : Hd.DA := ⟨a_System_wait, "wait", "System.wait", defArgs s_System_wait, defBody s_System_wait, defScope s_System_wait, [V.int 1], []⟩
abbrev s_System_numbers : Stmt := inClass (top 40) 32
abbrev a_System_numbers : Addr := 786
abbrev d_System_numbers : Hd.DA := ⟨a_System_numbers, "numbers", "System.numbers", defArgs s_System_numbers, defBody s_System_numbers, defScope s_System_numbers, [], []⟩
abbrev s_System_same : Stmt := inClass (top 40) 33
abbrev a_System_same : Addr := 793
abbrev d_System_same : Hd.DA := ⟨a_System_same, "same", "System.same", defArgs s_System_same, defBody s_System_same, defScope s_System_same, [], []⟩
abbrev s_System_units : Stmt := inClass (top 40) 34
abbrev a_System_units : Addr := 800
abbrev d_System_units : Hd.DA := ⟨a_System_units, "units", "System.units", defArgs s_System_units, defBody s_System_units, defScope s_System_units, [], []⟩
abbrev s_System_name : Stmt := inClass (top 40) 35
abbrev a_System_name : Addr := 807
abbrev d_System_name : Hd.DA := ⟨a_System_name, "name", "System.name", defArgs s_System_name, defBody s_System_name, defScope s_System_name, [], []⟩
abbrev s_System_row_of : Stmt := inClass (top 40) 36
abbrev a_System_row_of : Addr := 814
abbrev d_System_row_of : Hd.DA := ⟨a_System_row_of, "row_of", "System.row_of", defArgs s_System_row_of, defBody s_System_row_of, defScope s_System_row_of, [], []⟩
abbrev s_System_registrations : Stmt := inClass (top 40) 37
abbrev a_System_registrations : Addr := 821
abbrev d_System_registrations : Hd.DA := ⟨a_System_registrations, "registrations", "System.registrations", defArgs s_System_registrations, defBody s_System_registrations, defScope s_System_registrations, [], []⟩
abbrev s_System_twin : Stmt := inClass (top 40) 38
abbrev a_System_twin : Addr := 826
abbrev d_System_twin : Hd.DA := ⟨a_System_twin, "twin", "System.twin", defArgs s_System_twin, defBody s_System_twin, defScope s_System_twin, [], []⟩
abbrev s_System_answer : Stmt := inClass (top 40) 39
abbrev a_System_answer : Addr := 833
abbrev d_System_answer : Hd.DA := ⟨a_System_answer, "answer", "System.answer", defArgs s_System_answer, defBody s_System_answer, defScope s_System_answer, [], []⟩
abbrev s_System_done : Stmt := inClass (top 40) 40
abbrev a_System_done : Addr := 840
abbrev d_System_done : Hd.DA := ⟨a_System_done, "done", "System.done", defArgs s_System_done, defBody s_System_done, defScope s_System_done, [], []⟩
abbrev s_System_done_by_process : Stmt := inClass (top 40) 41
abbrev a_System_done_by_process : Addr := 847
abbrev d_System_done_by_process : Hd.DA := ⟨a_System_done_by_process, "done_by_process", "System.done_by_process", defArgs s_System_done_by_process, defBody s_System_done_by_process, defScope s_System_done_by_process, [], []⟩
abbrev s_System_done_by_number : Stmt := inClass (top 40) 42
abbrev a_System_done_by_number : Addr := 854
abbrev d_System_done_by_number : Hd.DA := ⟨a_System_done_by_number, "done_by_number", "System.done_by_number", defArgs s_System_done_by_number, defBody s_System_done_by_number, defScope s_System_done_by_number, [], []⟩
abbrev s_System_done_by_more : Stmt := inClass (top 40) 43
abbrev a_System_done_by_more : Addr := 861
abbrev d_System_done_by_more : Hd.DA := ⟨a_System_done_by_more, "done_by_more", "System.done_by_more", defArgs s_System_done_by_more, defBody s_System_done_by_more, defScope s_System_done_by_more, [], []⟩
abbrev s_System_eq : Stmt := inClass (top 40) 44
abbrev a_System_eq : Addr := 868
abbrev d_System_eq : Hd.DA := ⟨a_System_eq, "__eq__", "System.__eq__", defArgs s_System_eq, defBody s_System_eq, defScope s_System_eq, [], []⟩
abbrev s_System_len : Stmt := inClass (top 40) 45
abbrev a_System_len : Addr := 875
abbrev d_System_len : Hd.DA := ⟨a_System_len, "__len__", "System.__len__", defArgs s_System_len, defBody s_System_len, defScope s_System_len, [], []⟩
abbrev s_System_contains : Stmt := inClass (top 40) 46
abbrev a_System_contains : Addr := 882
abbrev d_System_contains : Hd.DA := ⟨a_System_contains, "__contains__", "System.__contains__", defArgs s_System_contains, defBody s_System_contains, defScope s_System_contains, [], []⟩
abbrev s_System_repr : Stmt := inClass (top 40) 47
abbrev a_System_repr : Addr := 889
abbrev d_System_repr : Hd.DA := ⟨a_System_repr, "__repr__", "System.__repr__", defArgs s_System_repr, defBody s_System_repr, defScope s_System_repr, [], []⟩
abbrev s_picture_of : Stmt := top 41
abbrev a_picture_of : Addr := 901
abbrev d_picture_of : Hd.DA := ⟨a_picture_of, "picture_of", "picture_of", defArgs s_picture_of, defBody s_picture_of, defScope s_picture_of, [], []⟩
abbrev a_STEPS : Addr := 902
abbrev kv_STEPS : List (Str × V) := [("take", V.int 1), ("read", V.int 1), ("close", V.int 0), ("remove", V.int 1), ("make", V.int 0), ("watch", V.int 3), ("call", V.int 1)]
abbrev s_is_step : Stmt := top 44
abbrev a_is_step : Addr := 909
abbrev d_is_step : Hd.DA := ⟨a_is_step, "is_step", "is_step", defArgs s_is_step, defBody s_is_step, defScope s_is_step, [], []⟩
abbrev s_look_workers : Stmt := top 45
abbrev a_look_workers : Addr := 916
abbrev d_look_workers : Hd.DA := ⟨a_look_workers, "look_workers", "look_workers", defArgs s_look_workers, defBody s_look_workers, defScope s_look_workers, [], []⟩
abbrev c_Crew : Addr := 1050
abbrev s_Crew_init : Stmt := inClass (top 46) 0
abbrev a_Crew_init : Addr := 928
abbrev d_Crew_init : Hd.DA := ⟨a_Crew_init, "__init__", "Crew.__init__", defArgs s_Crew_init, defBody s_Crew_init, defScope s_Crew_init, [], []⟩
abbrev s_Crew_system : Stmt := inClass (top 46) 1
abbrev a_Crew_system : Addr := 935
abbrev d_Crew_system : Hd.DA := ⟨a_Crew_system, "system", "Crew.system", defArgs s_Crew_system, defBody s_Crew_system, defScope s_Crew_system, [], []⟩
abbrev s_Crew_again : Stmt := inClass (top 46) 2
abbrev a_Crew_again : Addr := 942
abbrev d_Crew_again : Hd.DA := ⟨a_Crew_again, "again", "Crew.again", defArgs s_Crew_again, defBody s_Crew_again, defScope s_Crew_again, [], []⟩
abbrev s_Crew_next_step : Stmt := inClass (top 46) 3
abbrev a_Crew_next_step : Addr := 949
abbrev d_Crew_next_step : Hd.DA := ⟨a_Crew_next_step, "next_step", "Crew.next_step", defArgs s_Crew_next_step, defBody s_Crew_next_step, defScope s_Crew_next_step, [], []⟩
abbrev s_Crew_ready_entry : Stmt := inClass (top 46) 4
abbrev a_Crew_ready_entry : Addr := 956
abbrev d_Crew_ready_entry : Hd.DA := ⟨a_Crew_ready_entry, "ready_entry", "Crew.ready_entry", defArgs s_Crew_ready_entry, defBody s_Crew_ready_entry, defScope s_Crew_ready_entry, [], []⟩
abbrev s_Crew_is_possible : Stmt := inClass (top 46) 5
abbrev a_Crew_is_possible : Addr := 963
abbrev d_Crew_is_possible : Hd.DA := ⟨a_Crew_is_possible, "is_possible", "Crew.is_possible", defArgs s_Crew_is_possible, defBody s_Crew_is_possible, defScope s_Crew_is_possible, [], []⟩
abbrev s_Crew_possible : Stmt := inClass (top 46) 6
abbrev a_Crew_possible : Addr := 970
abbrev d_Crew_possible : Hd.DA := ⟨a_Crew_possible, "possible", "Crew.possible", defArgs s_Crew_possible, defBody s_Crew_possible, defScope s_Crew_possible, [], []⟩
abbrev s_Crew_look_index : Stmt := inClass (top 46) 7
abbrev a_Crew_look_index : Addr := 977
abbrev d_Crew_look_index : Hd.DA := ⟨a_Crew_look_index, "look_index", "Crew.look_index", defArgs s_Crew_look_index, defBody s_Crew_look_index, defScope s_Crew_look_index, [], []⟩
abbrev s_Crew_after : Stmt := inClass (top 46) 8
abbrev a_Crew_after : Addr := 984
abbrev d_Crew_after : Hd.DA := ⟨a_Crew_after, "after", "Crew.after", defArgs s_Crew_after, defBody s_Crew_after, defScope s_Crew_after, [], []⟩
abbrev s_Crew_do_step : Stmt := inClass (top 46) 9
abbrev a_Crew_do_step : Addr := 991
abbrev d_Crew_do_step : Hd.DA := ⟨a_Crew_do_step, "do_step", "Crew.do_step", defArgs s_Crew_do_step, defBody s_Crew_do_step, defScope s_Crew_do_step, [], []⟩
abbrev s_Crew_do_by_taken : Stmt := inClass (top 46) 10
abbrev a_Crew_do_by_taken : Addr := 998
abbrev d_Crew_do_by_taken : Hd.DA := ⟨a_Crew_do_by_taken, "do_by_taken", "Crew.do_by_taken", defArgs s_Crew_do_by_taken, defBody s_Crew_do_by_taken, defScope s_Crew_do_by_taken, [], []⟩
abbrev s_Crew_is_stray : Stmt := inClass (top 46) 11
abbrev a_Crew_is_stray : Addr := 1005
abbrev d_Crew_is_stray : Hd.DA := ⟨a_Crew_is_stray, "is_stray", "Crew.is_stray", defArgs s_Crew_is_stray, defBody s_Crew_is_stray, defScope s_Crew_is_stray, [], []⟩
abbrev s_Crew_done : Stmt := inClass (top 46) 12
abbrev a_Crew_done : Addr := 1012
abbrev d_Crew_done : Hd.DA := ⟨a_Crew_done, "done", "Crew.done", defArgs s_Crew_done, defBody s_Crew_done, defScope s_Crew_done, [], []⟩
abbrev s_Crew_taken : Stmt := inClass (top 46) 13
abbrev a_Crew_taken : Addr := 1019
abbrev d_Crew_taken : Hd.DA := ⟨a_Crew_taken, "taken", "Crew.taken", defArgs s_Crew_taken, defBody s_Crew_taken, defScope s_Crew_taken, [], []⟩
abbrev s_Crew_made : Stmt := inClass (top 46) 14
abbrev a_Crew_made : Addr := 1026
abbrev d_Crew_made : Hd.DA := ⟨a_Crew_made, "made", "Crew.made", defArgs s_Crew_made, defBody s_Crew_made, defScope s_Crew_made, [], []⟩
abbrev s_Crew_kept_source : Stmt := inClass (top 46) 15
abbrev a_Crew_kept_source : Addr := 1033
abbrev d_Crew_kept_source : Hd.DA := ⟨a_Crew_kept_source, "kept_source", "Crew.kept_source", defArgs s_Crew_kept_source, defBody s_Crew_kept_source, defScope s_Crew_kept_source, [], []⟩
abbrev s_Crew_len : Stmt := inClass (top 46) 16
abbrev a_Crew_len : Addr := 1040
abbrev d_Crew_len : Hd.DA := ⟨a_Crew_len, "__len__", "Crew.__len__", defArgs s_Crew_len, defBody s_Crew_len, defScope s_Crew_len, [], []⟩
abbrev s_Crew_eq : Stmt := inClass (top 46) 17
abbrev a_Crew_eq : Addr := 1047
abbrev d_Crew_eq : Hd.DA := ⟨a_Crew_eq, "__eq__", "Crew.__eq__", defArgs s_Crew_eq, defBody s_Crew_eq, defScope s_Crew_eq, [], []⟩
abbrev s_state_of : Stmt := top 47
abbrev a_state_of : Addr := 1059
abbrev d_state_of : Hd.DA := ⟨a_state_of, "state_of", "state_of", defArgs s_state_of, defBody s_state_of, defScope s_state_of, [], []⟩
abbrev s__law_bag : Stmt := top 49
abbrev a__law_bag : Addr := 1066
abbrev d__law_bag : Hd.DA := ⟨a__law_bag, "_law_bag", "_law_bag", defArgs s__law_bag, defBody s__law_bag, defScope s__law_bag, [], []⟩
abbrev s__law_take : Stmt := top 50
abbrev a__law_take : Addr := 1073
abbrev d__law_take : Hd.DA := ⟨a__law_take, "_law_take", "_law_take", defArgs s__law_take, defBody s__law_take, defScope s__law_take, [], []⟩
abbrev s__law_of : Stmt := top 51
abbrev a__law_of : Addr := 1080
abbrev d__law_of : Hd.DA := ⟨a__law_of, "_law_of", "_law_of", defArgs s__law_of, defBody s__law_of, defScope s__law_of, [], []⟩
abbrev s__law_made : Stmt := top 52
abbrev a__law_made : Addr := 1087
abbrev d__law_made : Hd.DA := ⟨a__law_made, "_law_made", "_law_made", defArgs s__law_made, defBody s__law_made, defScope s__law_made, [], []⟩
abbrev s__law_plain : Stmt := top 53
abbrev a__law_plain : Addr := 1094
abbrev d__law_plain : Hd.DA := ⟨a__law_plain, "_law_plain", "_law_plain", defArgs s__law_plain, defBody s__law_plain, defScope s__law_plain, [], []⟩
abbrev s__law_step : Stmt := top 54
abbrev a__law_step : Addr := 1101
abbrev d__law_step : Hd.DA := ⟨a__law_step, "_law_step", "_law_step", defArgs s__law_step, defBody s__law_step, defScope s__law_step, [], []⟩
abbrev s__law_found : Stmt := top 55
abbrev a__law_found : Addr := 1108
abbrev d__law_found : Hd.DA := ⟨a__law_found, "_law_found", "_law_found", defArgs s__law_found, defBody s__law_found, defScope s__law_found, [], []⟩
abbrev s__law_built : Stmt := top 56
abbrev a__law_built : Addr := 1115
abbrev d__law_built : Hd.DA := ⟨a__law_built, "_law_built", "_law_built", defArgs s__law_built, defBody s__law_built, defScope s__law_built, [], []⟩
abbrev s_law : Stmt := top 57
abbrev a_law : Addr := 1122
abbrev d_law : Hd.DA := ⟨a_law, "law", "law", defArgs s_law, defBody s_law, defScope s_law, [], []⟩
def names0 : List Str := ["_wall", "__name__", "NoProcess", "NotOpen", "NoNumber", "NotRegistered", "NotASource", "NotASet", "BadCall", "BadStep", "BadCount", "BadLabel", "BadWord", "BadLimit", "Full", "NoRoom", "Finished", "Registered", "Taken", "SOURCE", "SET", "LEVEL", "EDGE", "ONCE", "is_integer", "is_between", "Source", "Entry", "WaitSet", "ARGUMENTS"]
def names1 : List Str := ["is_call", "LEAST_PROCESSES", "LEAST_NUMBERS", "MOST_COUNT", "MOST_LABEL", "look_count", "look_word", "System", "picture_of", "STEPS", "is_step", "look_workers", "Crew", "state_of", "_law_bag", "_law_take", "_law_of", "_law_made", "_law_plain", "_law_step", "_law_found", "_law_built"]
def names : List Str := names0 ++ names1
def addrs : List Addr := [3, 2, 38, 37, 58, 57, 78, 77, 98, 97, 118, 117, 138, 137, 158, 157, 178, 177, 198, 197, 218, 217, 238, 237, 258, 257, 278, 277, 298, 297, 318, 317, 338, 337, 358, 357, 423, 422, 452, 451, 517, 516, 892, 891, 1050, 1049, 35, 55, 75, 95, 115, 135, 155, 175, 195, 215, 235, 255, 275, 295, 315, 335, 355, 368, 375, 390, 398, 397, 406, 405, 413, 420, 442, 449, 470, 478, 477, 485, 492, 499, 504, 509, 514, 522, 545, 552, 559, 574, 593, 592, 600, 607, 614, 621, 628, 633, 640, 647, 652, 659, 666, 673, 680, 687, 695, 702, 707, 714, 721, 729, 736, 744, 752, 759, 766, 773, 781, 786, 793, 800, 807, 814, 821, 826, 833, 840, 847, 854, 861, 868, 875, 882, 889, 901, 902, 909, 916, 928, 935, 942, 949, 956, 963, 970, 977, 984, 991, 998, 1005, 1012, 1019, 1026, 1033, 1040, 1047, 1059, 1066, 1073, 1080, 1087, 1094, 1101, 1108, 1115, 1122, 34, 54, 74, 94, 114, 134, 154, 174, 194, 214, 234, 254, 274, 294, 314, 334, 354, 367, 374, 389, 383, 396, 404, 412, 419, 441, 435, 448, 469, 476, 484, 491, 498, 503, 508, 513, 523, 524, 525, 526, 527, 528, 529, 530, 531, 532, 533, 534, 535, 536, 537, 538, 544, 551, 558, 573, 567, 591, 599, 606, 613, 620, 627, 632, 639, 646, 651, 658, 665, 672, 679, 686, 694, 688, 701, 706, 713, 720, 728, 722, 735, 743, 737, 751, 745, 758, 765, 772, 780, 774, 785, 792, 799, 806, 813, 820, 825, 832, 839, 846, 853, 860, 867, 874, 881, 888, 900, 908, 915, 927, 934, 941, 948, 955, 962, 969, 976, 983, 990, 997, 1004, 1011, 1018, 1025, 1032, 1039, 1046, 1058, 1065, 1072, 1079, 1086, 1093, 1100, 1107, 1114, 1121]
def defsA : List Hd.DA := [d_NoProcess_init, d_NotOpen_init, d_NoNumber_init, d_NotRegistered_init, d_NotASource_init, d_NotASet_init, d_BadCall_init, d_BadStep_init, d_BadCount_init, d_BadLabel_init, d_BadWord_init, d_BadLimit_init, d_Full_init, d_NoRoom_init, d_Finished_init, d_Registered_init, d_Taken_init, d_is_integer, d_is_between, d_Source_init, d_Source_kind, d_Source_is_ready, d_Source_taken, d_Source_twin, d_Entry_init, d_Entry_twin, d_WaitSet_init, d_WaitSet_kind, d_WaitSet_keyed, d_WaitSet_labelled, d_WaitSet_append_pending, d_WaitSet_drop, d_WaitSet_forget, d_WaitSet_twin, d_is_call, d_look_count, d_look_word, d_System_init, d_System_limits, d_System_alive, d_System_table_of, d_System_serial_at, d_System_source_at, d_System_set_at, d_System_holders, d_System_name_of, d_System_serial_named, d_System_set_serials, d_System_found_entry, d_System_lowest_free, d_System_placed, d_System_new_source, d_System_new_set, d_System_copy, d_System_close, d_System_fork]
def dvalsA : List Hd.FnW := [d_NoProcess_init.val, d_NotOpen_init.val, d_NoNumber_init.val, d_NotRegistered_init.val, d_NotASource_init.val, d_NotASet_init.val, d_BadCall_init.val, d_BadStep_init.val, d_BadCount_init.val, d_BadLabel_init.val, d_BadWord_init.val, d_BadLimit_init.val, d_Full_init.val, d_NoRoom_init.val, d_Finished_init.val, d_Registered_init.val, d_Taken_init.val, d_is_integer.val, d_is_between.val, d_Source_init.val, d_Source_kind.val, d_Source_is_ready.val, d_Source_taken.val, d_Source_twin.val, d_Entry_init.val, d_Entry_twin.val, d_WaitSet_init.val, d_WaitSet_kind.val, d_WaitSet_keyed.val, d_WaitSet_labelled.val, d_WaitSet_append_pending.val, d_WaitSet_drop.val, d_WaitSet_forget.val, d_WaitSet_twin.val, d_is_call.val, d_look_count.val, d_look_word.val, d_System_init.val, d_System_limits.val, d_System_alive.val, d_System_table_of.val, d_System_serial_at.val, d_System_source_at.val, d_System_set_at.val, d_System_holders.val, d_System_name_of.val, d_System_serial_named.val, d_System_set_serials.val, d_System_found_entry.val, d_System_lowest_free.val, d_System_placed.val, d_System_new_source.val, d_System_new_set.val, d_System_copy.val, d_System_close.val, d_System_fork.val]
def defsB : List Hd.DA := [d_System_end, d_System_pend, d_System_arrive, d_System_finish, d_System_read, d_System_add, d_System_keyed_entry, d_System_change, d_System_remove, d_System_wait, d_System_numbers, d_System_same, d_System_units, d_System_name, d_System_row_of, d_System_registrations, d_System_twin, d_System_answer, d_System_done, d_System_done_by_process, d_System_done_by_number, d_System_done_by_more, d_System_eq, d_System_len, d_System_contains, d_System_repr, d_picture_of, d_is_step, d_look_workers, d_Crew_init, d_Crew_system, d_Crew_again, d_Crew_next_step, d_Crew_ready_entry, d_Crew_is_possible, d_Crew_possible, d_Crew_look_index, d_Crew_after, d_Crew_do_step, d_Crew_do_by_taken, d_Crew_is_stray, d_Crew_done, d_Crew_taken, d_Crew_made, d_Crew_kept_source, d_Crew_len, d_Crew_eq, d_state_of, d__law_bag, d__law_take, d__law_of, d__law_made, d__law_plain, d__law_step, d__law_found, d__law_built, d_law]
def dvalsB : List Hd.FnW := [d_System_end.val, d_System_pend.val, d_System_arrive.val, d_System_finish.val, d_System_read.val, d_System_add.val, d_System_keyed_entry.val, d_System_change.val, d_System_remove.val, d_System_wait.val, d_System_numbers.val, d_System_same.val, d_System_units.val, d_System_name.val, d_System_row_of.val, d_System_registrations.val, d_System_twin.val, d_System_answer.val, d_System_done.val, d_System_done_by_process.val, d_System_done_by_number.val, d_System_done_by_more.val, d_System_eq.val, d_System_len.val, d_System_contains.val, d_System_repr.val, d_picture_of.val, d_is_step.val, d_look_workers.val, d_Crew_init.val, d_Crew_system.val, d_Crew_again.val, d_Crew_next_step.val, d_Crew_ready_entry.val, d_Crew_is_possible.val, d_Crew_possible.val, d_Crew_look_index.val, d_Crew_after.val, d_Crew_do_step.val, d_Crew_do_by_taken.val, d_Crew_is_stray.val, d_Crew_done.val, d_Crew_taken.val, d_Crew_made.val, d_Crew_kept_source.val, d_Crew_len.val, d_Crew_eq.val, d_state_of.val, d__law_bag.val, d__law_take.val, d__law_of.val, d__law_made.val, d__law_plain.val, d__law_step.val, d__law_found.val, d__law_built.val, d_law.val]
def defs : List Hd.DA := defsA ++ defsB
def dvals : List Hd.FnW := dvalsA ++ dvalsB
def facts : List Hd.Fact := [Hd.nsRef "NoProcess" c_NoProcess,
  Xb.excF c_NoProcess Xb.bLookup 35 ["caption", "process"],
  Hd.nsRef "NotOpen" c_NotOpen,
  Xb.excF c_NotOpen Xb.bLookup 55 ["caption", "number"],
  Hd.nsRef "NoNumber" c_NoNumber,
  Xb.excF c_NoNumber Xb.bLookup 75 ["caption", "number"],
  Hd.nsRef "NotRegistered" c_NotRegistered,
  Xb.excF c_NotRegistered Xb.bLookup 95 ["caption", "number"],
  Hd.nsRef "NotASource" c_NotASource,
  Xb.excF c_NotASource Xb.bType 115 ["caption", "number"],
  Hd.nsRef "NotASet" c_NotASet,
  Xb.excF c_NotASet Xb.bType 135 ["caption", "number"],
  Hd.nsRef "BadCall" c_BadCall,
  Xb.excF c_BadCall Xb.bType 155 ["caption", "call"],
  Hd.nsRef "BadStep" c_BadStep,
  Xb.excF c_BadStep Xb.bType 175 ["caption", "worker", "step"],
  Hd.nsRef "BadCount" c_BadCount,
  Xb.excF c_BadCount Xb.bValue 195 ["caption", "count"],
  Hd.nsRef "BadLabel" c_BadLabel,
  Xb.excF c_BadLabel Xb.bValue 215 ["caption", "label"],
  Hd.nsRef "BadWord" c_BadWord,
  Xb.excF c_BadWord Xb.bValue 235 ["caption", "word"],
  Hd.nsRef "BadLimit" c_BadLimit,
  Xb.excF c_BadLimit Xb.bValue 255 ["caption", "limit"],
  Hd.nsRef "Full" c_Full,
  Xb.excF c_Full Xb.bOverflow 275 ["caption", "process"],
  Hd.nsRef "NoRoom" c_NoRoom,
  Xb.excF c_NoRoom Xb.bOverflow 295 ["caption"],
  Hd.nsRef "Finished" c_Finished,
  Xb.excF c_Finished Xb.bRuntime 315 ["caption", "number"],
  Hd.nsRef "Registered" c_Registered,
  Xb.excF c_Registered Xb.bRuntime 335 ["caption", "number"],
  Hd.nsRef "Taken" c_Taken,
  Xb.excF c_Taken Xb.bRuntime 355 ["caption", "label"],
  Hd.nsStr "SOURCE" "source",
  Hd.nsStr "SET" "set",
  Hd.nsStr "LEVEL" "level",
  Hd.nsStr "EDGE" "edge",
  Hd.nsStr "ONCE" "once",
  Hd.nsRef "is_integer" a_is_integer,
  Hd.nsRef "is_between" a_is_between,
  Hd.nsRef "Source" c_Source,
  Hd.cls c_Source,
  Hd.noat c_Source "unread",
  Hd.noat c_Source "finished",
  Hd.mkr c_Source a_Source_init,
  Hd.prop_ c_Source "kind" p_Source_kind a_Source_kind,
  Hd.prop_ c_Source "is_ready" p_Source_is_ready a_Source_is_ready,
  Hd.meth c_Source "taken" a_Source_taken,
  Hd.meth c_Source "twin" a_Source_twin,
  Hd.nsRef "Entry" c_Entry,
  Hd.cls c_Entry,
  Hd.noat c_Entry "number",
  Hd.noat c_Entry "serial",
  Hd.noat c_Entry "label",
  Hd.noat c_Entry "word",
  Hd.noat c_Entry "armed",
  Hd.mkr c_Entry a_Entry_init,
  Hd.meth c_Entry "twin" a_Entry_twin,
  Hd.nsRef "WaitSet" c_WaitSet,
  Hd.cls c_WaitSet,
  Hd.noat c_WaitSet "entries",
  Hd.noat c_WaitSet "row",
  Hd.mkr c_WaitSet a_WaitSet_init,
  Hd.prop_ c_WaitSet "kind" p_WaitSet_kind a_WaitSet_kind,
  Hd.meth c_WaitSet "keyed" a_WaitSet_keyed,
  Hd.meth c_WaitSet "labelled" a_WaitSet_labelled,
  Hd.meth c_WaitSet "append_pending" a_WaitSet_append_pending,
  Hd.meth c_WaitSet "drop" a_WaitSet_drop,
  Hd.meth c_WaitSet "forget" a_WaitSet_forget,
  Hd.meth c_WaitSet "twin" a_WaitSet_twin,
  Hd.nsRef "ARGUMENTS" a_ARGUMENTS,
  Hd.nsV a_ARGUMENTS "new_source" (V.ref 523),
  Hd.nsV a_ARGUMENTS "new_set" (V.ref 524),
  Hd.nsV a_ARGUMENTS "copy" (V.ref 525),
  Hd.nsV a_ARGUMENTS "close" (V.ref 526),
  Hd.nsV a_ARGUMENTS "fork" (V.ref 527),
  Hd.nsV a_ARGUMENTS "end" (V.ref 528),
  Hd.nsV a_ARGUMENTS "arrive" (V.ref 529),
  Hd.nsV a_ARGUMENTS "finish" (V.ref 530),
  Hd.nsV a_ARGUMENTS "read" (V.ref 531),
  Hd.nsV a_ARGUMENTS "add" (V.ref 532),
  Hd.nsV a_ARGUMENTS "change" (V.ref 533),
  Hd.nsV a_ARGUMENTS "remove" (V.ref 534),
  Hd.nsV a_ARGUMENTS "wait" (V.ref 535),
  Hd.nsV a_ARGUMENTS "numbers" (V.ref 536),
  Hd.nsV a_ARGUMENTS "same" (V.ref 537),
  Hd.nsV a_ARGUMENTS "units" (V.ref 538),
  Hd.tupA 523 [V.str "integer"],
  Hd.tupA 524 [V.str "integer"],
  Hd.tupA 525 [V.str "integer", V.str "integer", V.str "optional"],
  Hd.tupA 526 [V.str "integer", V.str "integer"],
  Hd.tupA 527 [V.str "integer"],
  Hd.tupA 528 [V.str "integer"],
  Hd.tupA 529 [V.str "integer", V.str "integer", V.str "integer"],
  Hd.tupA 530 [V.str "integer", V.str "integer"],
  Hd.tupA 531 [V.str "integer", V.str "integer", V.str "optional"],
  Hd.tupA 532 [V.str "integer", V.str "integer", V.str "integer", V.str "integer", V.str "word"],
  Hd.tupA 533 [V.str "integer", V.str "integer", V.str "integer", V.str "word"],
  Hd.tupA 534 [V.str "integer", V.str "integer", V.str "integer"],
  Hd.tupA 535 [V.str "integer", V.str "integer", V.str "integer"],
  Hd.tupA 536 [V.str "integer"],
  Hd.tupA 537 [V.str "integer", V.str "integer", V.str "integer", V.str "integer"],
  Hd.tupA 538 [V.str "integer", V.str "integer"],
  Hd.nsRef "is_call" a_is_call,
  Hd.nsInt "LEAST_PROCESSES" 2,
  Hd.nsInt "LEAST_NUMBERS" 3,
  Hd.nsInt "MOST_COUNT" 1000000,
  Hd.nsInt "MOST_LABEL" 999999,
  Hd.nsRef "look_count" a_look_count,
  Hd.nsRef "look_word" a_look_word,
  Hd.nsRef "System" c_System,
  Hd.cls c_System,
  Hd.noat c_System "process_limit",
  Hd.noat c_System "number_limit",
  Hd.noat c_System "tables",
  Hd.noat c_System "things",
  Hd.noat c_System "serials_made",
  Hd.crd c_System,
  Hd.cvI c_System "MOST_PROCESSES" 6,
  Hd.cvI c_System "MOST_NUMBERS" 8,
  Hd.mkr c_System a_System_init,
  Hd.prop_ c_System "limits" p_System_limits a_System_limits,
  Hd.meth c_System "alive" a_System_alive,
  Hd.meth c_System "table_of" a_System_table_of,
  Hd.meth c_System "serial_at" a_System_serial_at,
  Hd.meth c_System "source_at" a_System_source_at,
  Hd.meth c_System "set_at" a_System_set_at,
  Hd.meth c_System "holders" a_System_holders,
  Hd.meth c_System "name_of" a_System_name_of,
  Hd.meth c_System "serial_named" a_System_serial_named,
  Hd.meth c_System "set_serials" a_System_set_serials,
  Hd.meth c_System "found_entry" a_System_found_entry,
  Hd.meth c_System "lowest_free" a_System_lowest_free,
  Hd.meth c_System "placed" a_System_placed,
  Hd.meth c_System "new_source" a_System_new_source,
  Hd.meth c_System "new_set" a_System_new_set,
  Hd.meth c_System "copy" a_System_copy,
  Hd.meth c_System "close" a_System_close,
  Hd.meth c_System "fork" a_System_fork,
  Hd.meth c_System "end" a_System_end,
  Hd.meth c_System "pend" a_System_pend,
  Hd.meth c_System "arrive" a_System_arrive,
  Hd.meth c_System "finish" a_System_finish,
  Hd.meth c_System "read" a_System_read,
  Hd.meth c_System "add" a_System_add,
  Hd.meth c_System "keyed_entry" a_System_keyed_entry,
  Hd.meth c_System "change" a_System_change,
  Hd.meth c_System "remove" a_System_remove,
  Hd.meth c_System "wait" a_System_wait,
  Hd.meth c_System "numbers" a_System_numbers,
  Hd.meth c_System "same" a_System_same,
  Hd.meth c_System "units" a_System_units,
  Hd.meth c_System "name" a_System_name,
  Hd.meth c_System "row_of" a_System_row_of,
  Hd.meth c_System "registrations" a_System_registrations,
  Hd.meth c_System "twin" a_System_twin,
  Hd.meth c_System "answer" a_System_answer,
  Hd.meth c_System "done" a_System_done,
  Hd.meth c_System "done_by_process" a_System_done_by_process,
  Hd.meth c_System "done_by_number" a_System_done_by_number,
  Hd.meth c_System "done_by_more" a_System_done_by_more,
  Hd.meth c_System "__eq__" a_System_eq,
  Hd.meth c_System "__len__" a_System_len,
  Hd.meth c_System "__contains__" a_System_contains,
  Hd.meth c_System "__repr__" a_System_repr,
  Hd.nsRef "picture_of" a_picture_of,
  Hd.nsRef "STEPS" a_STEPS,
  Hd.nsV a_STEPS "take" (V.int 1),
  Hd.nsV a_STEPS "read" (V.int 1),
  Hd.nsV a_STEPS "close" (V.int 0),
  Hd.nsV a_STEPS "remove" (V.int 1),
  Hd.nsV a_STEPS "make" (V.int 0),
  Hd.nsV a_STEPS "watch" (V.int 3),
  Hd.nsV a_STEPS "call" (V.int 1),
  Hd.nsRef "is_step" a_is_step,
  Hd.nsRef "look_workers" a_look_workers,
  Hd.nsRef "Crew" c_Crew,
  Hd.cls c_Crew,
  Hd.noat c_Crew "base",
  Hd.noat c_Crew "workers",
  Hd.noat c_Crew "places",
  Hd.noat c_Crew "takens",
  Hd.noat c_Crew "mades",
  Hd.mkr c_Crew a_Crew_init,
  Hd.meth c_Crew "system" a_Crew_system,
  Hd.meth c_Crew "again" a_Crew_again,
  Hd.meth c_Crew "next_step" a_Crew_next_step,
  Hd.meth c_Crew "ready_entry" a_Crew_ready_entry,
  Hd.meth c_Crew "is_possible" a_Crew_is_possible,
  Hd.meth c_Crew "possible" a_Crew_possible,
  Hd.meth c_Crew "look_index" a_Crew_look_index,
  Hd.meth c_Crew "after" a_Crew_after,
  Hd.meth c_Crew "do_step" a_Crew_do_step,
  Hd.meth c_Crew "do_by_taken" a_Crew_do_by_taken,
  Hd.meth c_Crew "is_stray" a_Crew_is_stray,
  Hd.meth c_Crew "done" a_Crew_done,
  Hd.meth c_Crew "taken" a_Crew_taken,
  Hd.meth c_Crew "made" a_Crew_made,
  Hd.meth c_Crew "kept_source" a_Crew_kept_source,
  Hd.meth c_Crew "__len__" a_Crew_len,
  Hd.meth c_Crew "__eq__" a_Crew_eq,
  Hd.nsRef "state_of" a_state_of,
  Hd.nsRef "_law_bag" a__law_bag,
  Hd.nsRef "_law_take" a__law_take,
  Hd.nsRef "_law_of" a__law_of,
  Hd.nsRef "_law_made" a__law_made,
  Hd.nsRef "_law_plain" a__law_plain,
  Hd.nsRef "_law_step" a__law_step,
  Hd.nsRef "_law_found" a__law_found,
  Hd.nsRef "_law_built" a__law_built,
  Hd.nsRef "law" a_law,
  Hd.exm1 c_BadStep (.ref c_BadStep) true,
  Hd.excC c_BadStep,
  Hd.kit1 c_BadStep (.type "TypeError") true,
  Hd.kitN c_BadStep [.ref c_BadCall, .ref c_NotASet, .ref c_NotASource] false,
  Hd.nsFree "len",
  Hd.nsFree "isinstance",
  Hd.nsFree "int",
  Hd.nsFree "bool",
  Hd.nsFree "str",
  Hd.nsFree "tuple",
  Hd.nsFree "list",
  Hd.nsFree "range",
  Hd.nsFree "enumerate",
  Hd.nsFree "zip",
  Hd.nsFree "sorted",
  Hd.nsFree "min",
  Hd.nsFree "max",
  Hd.nsFree "abs",
  Hd.nsFree "repr",
  Hd.nsFree "TypeError",
  Hd.nsFree "ValueError",
  Hd.nsFree "RuntimeError",
  Hd.nsFree "OverflowError",
  Hd.nsFree "LookupError"]
def tabs : List Hd.Tab := [(a_ARGUMENTS, ["new_source", "new_set", "copy", "close", "fork", "end", "arrive", "finish", "read", "add", "change", "remove", "wait", "numbers", "same", "units"]), (a_STEPS, ["take", "read", "close", "remove", "make", "watch", "call"])]
def tvals (w : World) : Hd.TabW := [some (He.keysIn w.params ["new_source", "new_set", "copy", "close", "fork", "end", "arrive", "finish", "read", "add", "change", "remove", "wait", "numbers", "same", "units"]), some (He.keysIn w.params ["take", "read", "close", "remove", "make", "watch", "call"])]
/-- what the walk knows of the text behind the top -/
structure Txt (w : World) (K : PySem.W.Frag) (mg : Str → Option Value) : Prop where
  g_NoProcess : mg "NoProcess" = some (.ref c_NoProcess)
  x_NoProcess : Xb.ExcT K c_NoProcess 35 ["caption", "process"]
  g_NotOpen : mg "NotOpen" = some (.ref c_NotOpen)
  x_NotOpen : Xb.ExcT K c_NotOpen 55 ["caption", "number"]
  g_NoNumber : mg "NoNumber" = some (.ref c_NoNumber)
  x_NoNumber : Xb.ExcT K c_NoNumber 75 ["caption", "number"]
  g_NotRegistered : mg "NotRegistered" = some (.ref c_NotRegistered)
  x_NotRegistered : Xb.ExcT K c_NotRegistered 95 ["caption", "number"]
  g_NotASource : mg "NotASource" = some (.ref c_NotASource)
  x_NotASource : Xb.ExcT K c_NotASource 115 ["caption", "number"]
  g_NotASet : mg "NotASet" = some (.ref c_NotASet)
  x_NotASet : Xb.ExcT K c_NotASet 135 ["caption", "number"]
  g_BadCall : mg "BadCall" = some (.ref c_BadCall)
  x_BadCall : Xb.ExcT K c_BadCall 155 ["caption", "call"]
  g_BadStep : mg "BadStep" = some (.ref c_BadStep)
  x_BadStep : Xb.ExcT K c_BadStep 175 ["caption", "worker", "step"]
  g_BadCount : mg "BadCount" = some (.ref c_BadCount)
  x_BadCount : Xb.ExcT K c_BadCount 195 ["caption", "count"]
  g_BadLabel : mg "BadLabel" = some (.ref c_BadLabel)
  x_BadLabel : Xb.ExcT K c_BadLabel 215 ["caption", "label"]
  g_BadWord : mg "BadWord" = some (.ref c_BadWord)
  x_BadWord : Xb.ExcT K c_BadWord 235 ["caption", "word"]
  g_BadLimit : mg "BadLimit" = some (.ref c_BadLimit)
  x_BadLimit : Xb.ExcT K c_BadLimit 255 ["caption", "limit"]
  g_Full : mg "Full" = some (.ref c_Full)
  x_Full : Xb.ExcT K c_Full 275 ["caption", "process"]
  g_NoRoom : mg "NoRoom" = some (.ref c_NoRoom)
  x_NoRoom : Xb.ExcT K c_NoRoom 295 ["caption"]
  g_Finished : mg "Finished" = some (.ref c_Finished)
  x_Finished : Xb.ExcT K c_Finished 315 ["caption", "number"]
  g_Registered : mg "Registered" = some (.ref c_Registered)
  x_Registered : Xb.ExcT K c_Registered 335 ["caption", "number"]
  g_Taken : mg "Taken" = some (.ref c_Taken)
  x_Taken : Xb.ExcT K c_Taken 355 ["caption", "label"]
  g_SOURCE : ∃ t, mg "SOURCE" = some (.str "source" t)
  g_SET : ∃ t, mg "SET" = some (.str "set" t)
  g_LEVEL : ∃ t, mg "LEVEL" = some (.str "level" t)
  g_EDGE : ∃ t, mg "EDGE" = some (.str "edge" t)
  g_ONCE : ∃ t, mg "ONCE" = some (.str "once" t)
  g_is_integer : mg "is_integer" = some (.ref a_is_integer)
  g_is_between : mg "is_between" = some (.ref a_is_between)
  g_Source : mg "Source" = some (.ref c_Source)
  cl_Source : Cls K c_Source
  n_Source_unread : NoAttr K c_Source "unread"
  n_Source_finished : NoAttr K c_Source "finished"
  k_Source : Mk K c_Source a_Source_init
  pr_Source_kind : PropOf K c_Source "kind" p_Source_kind a_Source_kind
  pr_Source_is_ready : PropOf K c_Source "is_ready" p_Source_is_ready a_Source_is_ready
  m_Source_taken : Meth K c_Source "taken" a_Source_taken
  m_Source_twin : Meth K c_Source "twin" a_Source_twin
  g_Entry : mg "Entry" = some (.ref c_Entry)
  cl_Entry : Cls K c_Entry
  n_Entry_number : NoAttr K c_Entry "number"
  n_Entry_serial : NoAttr K c_Entry "serial"
  n_Entry_label : NoAttr K c_Entry "label"
  n_Entry_word : NoAttr K c_Entry "word"
  n_Entry_armed : NoAttr K c_Entry "armed"
  k_Entry : Mk K c_Entry a_Entry_init
  m_Entry_twin : Meth K c_Entry "twin" a_Entry_twin
  g_WaitSet : mg "WaitSet" = some (.ref c_WaitSet)
  cl_WaitSet : Cls K c_WaitSet
  n_WaitSet_entries : NoAttr K c_WaitSet "entries"
  n_WaitSet_row : NoAttr K c_WaitSet "row"
  k_WaitSet : Mk K c_WaitSet a_WaitSet_init
  pr_WaitSet_kind : PropOf K c_WaitSet "kind" p_WaitSet_kind a_WaitSet_kind
  m_WaitSet_keyed : Meth K c_WaitSet "keyed" a_WaitSet_keyed
  m_WaitSet_labelled : Meth K c_WaitSet "labelled" a_WaitSet_labelled
  m_WaitSet_append_pending : Meth K c_WaitSet "append_pending" a_WaitSet_append_pending
  m_WaitSet_drop : Meth K c_WaitSet "drop" a_WaitSet_drop
  m_WaitSet_forget : Meth K c_WaitSet "forget" a_WaitSet_forget
  m_WaitSet_twin : Meth K c_WaitSet "twin" a_WaitSet_twin
  g_ARGUMENTS : mg "ARGUMENTS" = some (.ref a_ARGUMENTS)
  t_ARGUMENTS : Hd.Table w K a_ARGUMENTS kv_ARGUMENTS
  u_ARGUMENTS_new_source : ∀ H, SqT K H 523 [V.str "integer"]
  u_ARGUMENTS_new_set : ∀ H, SqT K H 524 [V.str "integer"]
  u_ARGUMENTS_copy : ∀ H, SqT K H 525 [V.str "integer", V.str "integer", V.str "optional"]
  u_ARGUMENTS_close : ∀ H, SqT K H 526 [V.str "integer", V.str "integer"]
  u_ARGUMENTS_fork : ∀ H, SqT K H 527 [V.str "integer"]
  u_ARGUMENTS_end : ∀ H, SqT K H 528 [V.str "integer"]
  u_ARGUMENTS_arrive : ∀ H, SqT K H 529 [V.str "integer", V.str "integer", V.str "integer"]
  u_ARGUMENTS_finish : ∀ H, SqT K H 530 [V.str "integer", V.str "integer"]
  u_ARGUMENTS_read : ∀ H, SqT K H 531 [V.str "integer", V.str "integer", V.str "optional"]
  u_ARGUMENTS_add : ∀ H, SqT K H 532 [V.str "integer", V.str "integer", V.str "integer", V.str "integer", V.str "word"]
  u_ARGUMENTS_change : ∀ H, SqT K H 533 [V.str "integer", V.str "integer", V.str "integer", V.str "word"]
  u_ARGUMENTS_remove : ∀ H, SqT K H 534 [V.str "integer", V.str "integer", V.str "integer"]
  u_ARGUMENTS_wait : ∀ H, SqT K H 535 [V.str "integer", V.str "integer", V.str "integer"]
  u_ARGUMENTS_numbers : ∀ H, SqT K H 536 [V.str "integer"]
  u_ARGUMENTS_same : ∀ H, SqT K H 537 [V.str "integer", V.str "integer", V.str "integer", V.str "integer"]
  u_ARGUMENTS_units : ∀ H, SqT K H 538 [V.str "integer", V.str "integer"]
  g_is_call : mg "is_call" = some (.ref a_is_call)
  g_LEAST_PROCESSES : ∃ t, mg "LEAST_PROCESSES" = some (.int 2 t)
  g_LEAST_NUMBERS : ∃ t, mg "LEAST_NUMBERS" = some (.int 3 t)
  g_MOST_COUNT : ∃ t, mg "MOST_COUNT" = some (.int 1000000 t)
  g_MOST_LABEL : ∃ t, mg "MOST_LABEL" = some (.int 999999 t)
  g_look_count : mg "look_count" = some (.ref a_look_count)
  g_look_word : mg "look_word" = some (.ref a_look_word)
  g_System : mg "System" = some (.ref c_System)
  cl_System : Cls K c_System
  n_System_process_limit : NoAttr K c_System "process_limit"
  n_System_number_limit : NoAttr K c_System "number_limit"
  n_System_tables : NoAttr K c_System "tables"
  n_System_things : NoAttr K c_System "things"
  n_System_serials_made : NoAttr K c_System "serials_made"
  cr_System : ClX.CRead K c_System (.type "type")
  cv_System_MOST_PROCESSES : ∃ u, ClX.CVal K c_System (.type "type") "MOST_PROCESSES" (.int 6) u
  cv_System_MOST_NUMBERS : ∃ u, ClX.CVal K c_System (.type "type") "MOST_NUMBERS" (.int 8) u
  k_System : Mk K c_System a_System_init
  pr_System_limits : PropOf K c_System "limits" p_System_limits a_System_limits
  m_System_alive : Meth K c_System "alive" a_System_alive
  m_System_table_of : Meth K c_System "table_of" a_System_table_of
  m_System_serial_at : Meth K c_System "serial_at" a_System_serial_at
  m_System_source_at : Meth K c_System "source_at" a_System_source_at
  m_System_set_at : Meth K c_System "set_at" a_System_set_at
  m_System_holders : Meth K c_System "holders" a_System_holders
  m_System_name_of : Meth K c_System "name_of" a_System_name_of
  m_System_serial_named : Meth K c_System "serial_named" a_System_serial_named
  m_System_set_serials : Meth K c_System "set_serials" a_System_set_serials
  m_System_found_entry : Meth K c_System "found_entry" a_System_found_entry
  m_System_lowest_free : Meth K c_System "lowest_free" a_System_lowest_free
  m_System_placed : Meth K c_System "placed" a_System_placed
  m_System_new_source : Meth K c_System "new_source" a_System_new_source
  m_System_new_set : Meth K c_System "new_set" a_System_new_set
  m_System_copy : Meth K c_System "copy" a_System_copy
  m_System_close : Meth K c_System "close" a_System_close
  m_System_fork : Meth K c_System "fork" a_System_fork
  m_System_end : Meth K c_System "end" a_System_end
  m_System_pend : Meth K c_System "pend" a_System_pend
  m_System_arrive : Meth K c_System "arrive" a_System_arrive
  m_System_finish : Meth K c_System "finish" a_System_finish
  m_System_read : Meth K c_System "read" a_System_read
  m_System_add : Meth K c_System "add" a_System_add
  m_System_keyed_entry : Meth K c_System "keyed_entry" a_System_keyed_entry
  m_System_change : Meth K c_System "change" a_System_change
  m_System_remove : Meth K c_System "remove" a_System_remove
  m_System_wait : Meth K c_System "wait" a_System_wait
  m_System_numbers : Meth K c_System "numbers" a_System_numbers
  m_System_same : Meth K c_System "same" a_System_same
  m_System_units : Meth K c_System "units" a_System_units
  m_System_name : Meth K c_System "name" a_System_name
  m_System_row_of : Meth K c_System "row_of" a_System_row_of
  m_System_registrations : Meth K c_System "registrations" a_System_registrations
  m_System_twin : Meth K c_System "twin" a_System_twin
  m_System_answer : Meth K c_System "answer" a_System_answer
  m_System_done : Meth K c_System "done" a_System_done
  m_System_done_by_process : Meth K c_System "done_by_process" a_System_done_by_process
  m_System_done_by_number : Meth K c_System "done_by_number" a_System_done_by_number
  m_System_done_by_more : Meth K c_System "done_by_more" a_System_done_by_more
  m_System_eq : Meth K c_System "__eq__" a_System_eq
  m_System_len : Meth K c_System "__len__" a_System_len
  m_System_contains : Meth K c_System "__contains__" a_System_contains
  m_System_repr : Meth K c_System "__repr__" a_System_repr
  g_picture_of : mg "picture_of" = some (.ref a_picture_of)
  g_STEPS : mg "STEPS" = some (.ref a_STEPS)
  t_STEPS : Hd.Table w K a_STEPS kv_STEPS
  g_is_step : mg "is_step" = some (.ref a_is_step)
  g_look_workers : mg "look_workers" = some (.ref a_look_workers)
  g_Crew : mg "Crew" = some (.ref c_Crew)
  cl_Crew : Cls K c_Crew
  n_Crew_base : NoAttr K c_Crew "base"
  n_Crew_workers : NoAttr K c_Crew "workers"
  n_Crew_places : NoAttr K c_Crew "places"
  n_Crew_takens : NoAttr K c_Crew "takens"
  n_Crew_mades : NoAttr K c_Crew "mades"
  k_Crew : Mk K c_Crew a_Crew_init
  m_Crew_system : Meth K c_Crew "system" a_Crew_system
  m_Crew_again : Meth K c_Crew "again" a_Crew_again
  m_Crew_next_step : Meth K c_Crew "next_step" a_Crew_next_step
  m_Crew_ready_entry : Meth K c_Crew "ready_entry" a_Crew_ready_entry
  m_Crew_is_possible : Meth K c_Crew "is_possible" a_Crew_is_possible
  m_Crew_possible : Meth K c_Crew "possible" a_Crew_possible
  m_Crew_look_index : Meth K c_Crew "look_index" a_Crew_look_index
  m_Crew_after : Meth K c_Crew "after" a_Crew_after
  m_Crew_do_step : Meth K c_Crew "do_step" a_Crew_do_step
  m_Crew_do_by_taken : Meth K c_Crew "do_by_taken" a_Crew_do_by_taken
  m_Crew_is_stray : Meth K c_Crew "is_stray" a_Crew_is_stray
  m_Crew_done : Meth K c_Crew "done" a_Crew_done
  m_Crew_taken : Meth K c_Crew "taken" a_Crew_taken
  m_Crew_made : Meth K c_Crew "made" a_Crew_made
  m_Crew_kept_source : Meth K c_Crew "kept_source" a_Crew_kept_source
  m_Crew_len : Meth K c_Crew "__len__" a_Crew_len
  m_Crew_eq : Meth K c_Crew "__eq__" a_Crew_eq
  g_state_of : mg "state_of" = some (.ref a_state_of)
  g__law_bag : mg "_law_bag" = some (.ref a__law_bag)
  g__law_take : mg "_law_take" = some (.ref a__law_take)
  g__law_of : mg "_law_of" = some (.ref a__law_of)
  g__law_made : mg "_law_made" = some (.ref a__law_made)
  g__law_plain : mg "_law_plain" = some (.ref a__law_plain)
  g__law_step : mg "_law_step" = some (.ref a__law_step)
  g__law_found : mg "_law_found" = some (.ref a__law_found)
  g__law_built : mg "_law_built" = some (.ref a__law_built)
  g_law : mg "law" = some (.ref a_law)
  em_BadStep : PySem.W.exmOne K (.ref c_BadStep) (.ref c_BadStep) = some true
  ec_BadStep : ExcC K c_BadStep
  ki_BadStep_TypeError : PySem.W.kitOne K (.ref c_BadStep) (.type "TypeError") = some true
  kn_BadStep_BadCall_NotASet_NotASource : PySem.W.kitAny K (.ref c_BadStep) [.ref c_BadCall, .ref c_NotASet, .ref c_NotASource] = some false
  z_len : mg "len" = none
  z_isinstance : mg "isinstance" = none
  z_int : mg "int" = none
  z_bool : mg "bool" = none
  z_str : mg "str" = none
  z_tuple : mg "tuple" = none
  z_list : mg "list" = none
  z_range : mg "range" = none
  z_enumerate : mg "enumerate" = none
  z_zip : mg "zip" = none
  z_sorted : mg "sorted" = none
  z_min : mg "min" = none
  z_max : mg "max" = none
  z_abs : mg "abs" = none
  z_repr : mg "repr" = none
  z_TypeError : mg "TypeError" = none
  z_ValueError : mg "ValueError" = none
  z_RuntimeError : mg "RuntimeError" = none
  z_OverflowError : mg "OverflowError" = none
  z_LookupError : mg "LookupError" = none
  f_NoProcess_init : ∃ fd, d_NoProcess_init.Fun K fd
  f_NotOpen_init : ∃ fd, d_NotOpen_init.Fun K fd
  f_NoNumber_init : ∃ fd, d_NoNumber_init.Fun K fd
  f_NotRegistered_init : ∃ fd, d_NotRegistered_init.Fun K fd
  f_NotASource_init : ∃ fd, d_NotASource_init.Fun K fd
  f_NotASet_init : ∃ fd, d_NotASet_init.Fun K fd
  f_BadCall_init : ∃ fd, d_BadCall_init.Fun K fd
  f_BadStep_init : ∃ fd, d_BadStep_init.Fun K fd
  f_BadCount_init : ∃ fd, d_BadCount_init.Fun K fd
  f_BadLabel_init : ∃ fd, d_BadLabel_init.Fun K fd
  f_BadWord_init : ∃ fd, d_BadWord_init.Fun K fd
  f_BadLimit_init : ∃ fd, d_BadLimit_init.Fun K fd
  f_Full_init : ∃ fd, d_Full_init.Fun K fd
  f_NoRoom_init : ∃ fd, d_NoRoom_init.Fun K fd
  f_Finished_init : ∃ fd, d_Finished_init.Fun K fd
  f_Registered_init : ∃ fd, d_Registered_init.Fun K fd
  f_Taken_init : ∃ fd, d_Taken_init.Fun K fd
  f_is_integer : ∃ fd, d_is_integer.Fun K fd
  f_is_between : ∃ fd, d_is_between.Fun K fd
  f_Source_init : ∃ fd, d_Source_init.Fun K fd
  f_Source_kind : ∃ fd, d_Source_kind.Fun K fd
  f_Source_is_ready : ∃ fd, d_Source_is_ready.Fun K fd
  f_Source_taken : ∃ fd, d_Source_taken.Fun K fd
  f_Source_twin : ∃ fd, d_Source_twin.Fun K fd
  f_Entry_init : ∃ fd, d_Entry_init.Fun K fd
  f_Entry_twin : ∃ fd, d_Entry_twin.Fun K fd
  f_WaitSet_init : ∃ fd, d_WaitSet_init.Fun K fd
  f_WaitSet_kind : ∃ fd, d_WaitSet_kind.Fun K fd
  f_WaitSet_keyed : ∃ fd, d_WaitSet_keyed.Fun K fd
  f_WaitSet_labelled : ∃ fd, d_WaitSet_labelled.Fun K fd
  f_WaitSet_append_pending : ∃ fd, d_WaitSet_append_pending.Fun K fd
  f_WaitSet_drop : ∃ fd, d_WaitSet_drop.Fun K fd
  f_WaitSet_forget : ∃ fd, d_WaitSet_forget.Fun K fd
  f_WaitSet_twin : ∃ fd, d_WaitSet_twin.Fun K fd
  f_is_call : ∃ fd, d_is_call.Fun K fd
  f_look_count : ∃ fd, d_look_count.Fun K fd
  f_look_word : ∃ fd, d_look_word.Fun K fd
  f_System_init : ∃ fd, d_System_init.Fun K fd
  f_System_limits : ∃ fd, d_System_limits.Fun K fd
  f_System_alive : ∃ fd, d_System_alive.Fun K fd
  f_System_table_of : ∃ fd, d_System_table_of.Fun K fd
  f_System_serial_at : ∃ fd, d_System_serial_at.Fun K fd
  f_System_source_at : ∃ fd, d_System_source_at.Fun K fd
  f_System_set_at : ∃ fd, d_System_set_at.Fun K fd
  f_System_holders : ∃ fd, d_System_holders.Fun K fd
  f_System_name_of : ∃ fd, d_System_name_of.Fun K fd
  f_System_serial_named : ∃ fd, d_System_serial_named.Fun K fd
  f_System_set_serials : ∃ fd, d_System_set_serials.Fun K fd
  f_System_found_entry : ∃ fd, d_System_found_entry.Fun K fd
  f_System_lowest_free : ∃ fd, d_System_lowest_free.Fun K fd
  f_System_placed : ∃ fd, d_System_placed.Fun K fd
  f_System_new_source : ∃ fd, d_System_new_source.Fun K fd
  f_System_new_set : ∃ fd, d_System_new_set.Fun K fd
  f_System_copy : ∃ fd, d_System_copy.Fun K fd
  f_System_close : ∃ fd, d_System_close.Fun K fd
  f_System_fork : ∃ fd, d_System_fork.Fun K fd
  f_System_end : ∃ fd, d_System_end.Fun K fd
  f_System_pend : ∃ fd, d_System_pend.Fun K fd
  f_System_arrive : ∃ fd, d_System_arrive.Fun K fd
  f_System_finish : ∃ fd, d_System_finish.Fun K fd
  f_System_read : ∃ fd, d_System_read.Fun K fd
  f_System_add : ∃ fd, d_System_add.Fun K fd
  f_System_keyed_entry : ∃ fd, d_System_keyed_entry.Fun K fd
  f_System_change : ∃ fd, d_System_change.Fun K fd
  f_System_remove : ∃ fd, d_System_remove.Fun K fd
  f_System_wait : ∃ fd, d_System_wait.Fun K fd
  f_System_numbers : ∃ fd, d_System_numbers.Fun K fd
  f_System_same : ∃ fd, d_System_same.Fun K fd
  f_System_units : ∃ fd, d_System_units.Fun K fd
  f_System_name : ∃ fd, d_System_name.Fun K fd
  f_System_row_of : ∃ fd, d_System_row_of.Fun K fd
  f_System_registrations : ∃ fd, d_System_registrations.Fun K fd
  f_System_twin : ∃ fd, d_System_twin.Fun K fd
  f_System_answer : ∃ fd, d_System_answer.Fun K fd
  f_System_done : ∃ fd, d_System_done.Fun K fd
  f_System_done_by_process : ∃ fd, d_System_done_by_process.Fun K fd
  f_System_done_by_number : ∃ fd, d_System_done_by_number.Fun K fd
  f_System_done_by_more : ∃ fd, d_System_done_by_more.Fun K fd
  f_System_eq : ∃ fd, d_System_eq.Fun K fd
  f_System_len : ∃ fd, d_System_len.Fun K fd
  f_System_contains : ∃ fd, d_System_contains.Fun K fd
  f_System_repr : ∃ fd, d_System_repr.Fun K fd
  f_picture_of : ∃ fd, d_picture_of.Fun K fd
  f_is_step : ∃ fd, d_is_step.Fun K fd
  f_look_workers : ∃ fd, d_look_workers.Fun K fd
  f_Crew_init : ∃ fd, d_Crew_init.Fun K fd
  f_Crew_system : ∃ fd, d_Crew_system.Fun K fd
  f_Crew_again : ∃ fd, d_Crew_again.Fun K fd
  f_Crew_next_step : ∃ fd, d_Crew_next_step.Fun K fd
  f_Crew_ready_entry : ∃ fd, d_Crew_ready_entry.Fun K fd
  f_Crew_is_possible : ∃ fd, d_Crew_is_possible.Fun K fd
  f_Crew_possible : ∃ fd, d_Crew_possible.Fun K fd
  f_Crew_look_index : ∃ fd, d_Crew_look_index.Fun K fd
  f_Crew_after : ∃ fd, d_Crew_after.Fun K fd
  f_Crew_do_step : ∃ fd, d_Crew_do_step.Fun K fd
  f_Crew_do_by_taken : ∃ fd, d_Crew_do_by_taken.Fun K fd
  f_Crew_is_stray : ∃ fd, d_Crew_is_stray.Fun K fd
  f_Crew_done : ∃ fd, d_Crew_done.Fun K fd
  f_Crew_taken : ∃ fd, d_Crew_taken.Fun K fd
  f_Crew_made : ∃ fd, d_Crew_made.Fun K fd
  f_Crew_kept_source : ∃ fd, d_Crew_kept_source.Fun K fd
  f_Crew_len : ∃ fd, d_Crew_len.Fun K fd
  f_Crew_eq : ∃ fd, d_Crew_eq.Fun K fd
  f_state_of : ∃ fd, d_state_of.Fun K fd
  f__law_bag : ∃ fd, d__law_bag.Fun K fd
  f__law_take : ∃ fd, d__law_take.Fun K fd
  f__law_of : ∃ fd, d__law_of.Fun K fd
  f__law_made : ∃ fd, d__law_made.Fun K fd
  f__law_plain : ∃ fd, d__law_plain.Fun K fd
  f__law_step : ∃ fd, d__law_step.Fun K fd
  f__law_found : ∃ fd, d__law_found.Fun K fd
  f__law_built : ∃ fd, d__law_built.Fun K fd
  f_law : ∃ fd, d_law.Fun K fd
theorem txt_of {w : World} {K : PySem.W.Frag} {h : Heap} {mg : Str → Option Value} (X : K.In h) (G : h.Ns mainGlobals mg) (c : Hd.Says defs facts tabs w K) : Txt w K mg where
  g_NoProcess := Hd.nsRef_ok X G (c.fact 0 (f := Hd.nsRef "NoProcess" c_NoProcess))
  x_NoProcess := Xb.excF_ok (c.fact 1 (f := Xb.excF c_NoProcess Xb.bLookup 35 ["caption", "process"]))
  g_NotOpen := Hd.nsRef_ok X G (c.fact 2 (f := Hd.nsRef "NotOpen" c_NotOpen))
  x_NotOpen := Xb.excF_ok (c.fact 3 (f := Xb.excF c_NotOpen Xb.bLookup 55 ["caption", "number"]))
  g_NoNumber := Hd.nsRef_ok X G (c.fact 4 (f := Hd.nsRef "NoNumber" c_NoNumber))
  x_NoNumber := Xb.excF_ok (c.fact 5 (f := Xb.excF c_NoNumber Xb.bLookup 75 ["caption", "number"]))
  g_NotRegistered := Hd.nsRef_ok X G (c.fact 6 (f := Hd.nsRef "NotRegistered" c_NotRegistered))
  x_NotRegistered := Xb.excF_ok (c.fact 7 (f := Xb.excF c_NotRegistered Xb.bLookup 95 ["caption", "number"]))
  g_NotASource := Hd.nsRef_ok X G (c.fact 8 (f := Hd.nsRef "NotASource" c_NotASource))
  x_NotASource := Xb.excF_ok (c.fact 9 (f := Xb.excF c_NotASource Xb.bType 115 ["caption", "number"]))
  g_NotASet := Hd.nsRef_ok X G (c.fact 10 (f := Hd.nsRef "NotASet" c_NotASet))
  x_NotASet := Xb.excF_ok (c.fact 11 (f := Xb.excF c_NotASet Xb.bType 135 ["caption", "number"]))
  g_BadCall := Hd.nsRef_ok X G (c.fact 12 (f := Hd.nsRef "BadCall" c_BadCall))
  x_BadCall := Xb.excF_ok (c.fact 13 (f := Xb.excF c_BadCall Xb.bType 155 ["caption", "call"]))
  g_BadStep := Hd.nsRef_ok X G (c.fact 14 (f := Hd.nsRef "BadStep" c_BadStep))
  x_BadStep := Xb.excF_ok (c.fact 15 (f := Xb.excF c_BadStep Xb.bType 175 ["caption", "worker", "step"]))
  g_BadCount := Hd.nsRef_ok X G (c.fact 16 (f := Hd.nsRef "BadCount" c_BadCount))
  x_BadCount := Xb.excF_ok (c.fact 17 (f := Xb.excF c_BadCount Xb.bValue 195 ["caption", "count"]))
  g_BadLabel := Hd.nsRef_ok X G (c.fact 18 (f := Hd.nsRef "BadLabel" c_BadLabel))
  x_BadLabel := Xb.excF_ok (c.fact 19 (f := Xb.excF c_BadLabel Xb.bValue 215 ["caption", "label"]))
  g_BadWord := Hd.nsRef_ok X G (c.fact 20 (f := Hd.nsRef "BadWord" c_BadWord))
  x_BadWord := Xb.excF_ok (c.fact 21 (f := Xb.excF c_BadWord Xb.bValue 235 ["caption", "word"]))
  g_BadLimit := Hd.nsRef_ok X G (c.fact 22 (f := Hd.nsRef "BadLimit" c_BadLimit))
  x_BadLimit := Xb.excF_ok (c.fact 23 (f := Xb.excF c_BadLimit Xb.bValue 255 ["caption", "limit"]))
  g_Full := Hd.nsRef_ok X G (c.fact 24 (f := Hd.nsRef "Full" c_Full))
  x_Full := Xb.excF_ok (c.fact 25 (f := Xb.excF c_Full Xb.bOverflow 275 ["caption", "process"]))
  g_NoRoom := Hd.nsRef_ok X G (c.fact 26 (f := Hd.nsRef "NoRoom" c_NoRoom))
  x_NoRoom := Xb.excF_ok (c.fact 27 (f := Xb.excF c_NoRoom Xb.bOverflow 295 ["caption"]))
  g_Finished := Hd.nsRef_ok X G (c.fact 28 (f := Hd.nsRef "Finished" c_Finished))
  x_Finished := Xb.excF_ok (c.fact 29 (f := Xb.excF c_Finished Xb.bRuntime 315 ["caption", "number"]))
  g_Registered := Hd.nsRef_ok X G (c.fact 30 (f := Hd.nsRef "Registered" c_Registered))
  x_Registered := Xb.excF_ok (c.fact 31 (f := Xb.excF c_Registered Xb.bRuntime 335 ["caption", "number"]))
  g_Taken := Hd.nsRef_ok X G (c.fact 32 (f := Hd.nsRef "Taken" c_Taken))
  x_Taken := Xb.excF_ok (c.fact 33 (f := Xb.excF c_Taken Xb.bRuntime 355 ["caption", "label"]))
  g_SOURCE := Hd.nsStr_ok X G (c.fact 34 (f := Hd.nsStr "SOURCE" "source"))
  g_SET := Hd.nsStr_ok X G (c.fact 35 (f := Hd.nsStr "SET" "set"))
  g_LEVEL := Hd.nsStr_ok X G (c.fact 36 (f := Hd.nsStr "LEVEL" "level"))
  g_EDGE := Hd.nsStr_ok X G (c.fact 37 (f := Hd.nsStr "EDGE" "edge"))
  g_ONCE := Hd.nsStr_ok X G (c.fact 38 (f := Hd.nsStr "ONCE" "once"))
  g_is_integer := Hd.nsRef_ok X G (c.fact 39 (f := Hd.nsRef "is_integer" a_is_integer))
  g_is_between := Hd.nsRef_ok X G (c.fact 40 (f := Hd.nsRef "is_between" a_is_between))
  g_Source := Hd.nsRef_ok X G (c.fact 41 (f := Hd.nsRef "Source" c_Source))
  cl_Source := Hd.cls_ok (c.fact 42 (f := Hd.cls c_Source))
  n_Source_unread := Hd.noat_ok (c.fact 43 (f := Hd.noat c_Source "unread"))
  n_Source_finished := Hd.noat_ok (c.fact 44 (f := Hd.noat c_Source "finished"))
  k_Source := Hd.mkr_ok (c.fact 45 (f := Hd.mkr c_Source a_Source_init))
  pr_Source_kind := Hd.prop_ok (c.fact 46 (f := Hd.prop_ c_Source "kind" p_Source_kind a_Source_kind))
  pr_Source_is_ready := Hd.prop_ok (c.fact 47 (f := Hd.prop_ c_Source "is_ready" p_Source_is_ready a_Source_is_ready))
  m_Source_taken := Hd.meth_ok (c.fact 48 (f := Hd.meth c_Source "taken" a_Source_taken))
  m_Source_twin := Hd.meth_ok (c.fact 49 (f := Hd.meth c_Source "twin" a_Source_twin))
  g_Entry := Hd.nsRef_ok X G (c.fact 50 (f := Hd.nsRef "Entry" c_Entry))
  cl_Entry := Hd.cls_ok (c.fact 51 (f := Hd.cls c_Entry))
  n_Entry_number := Hd.noat_ok (c.fact 52 (f := Hd.noat c_Entry "number"))
  n_Entry_serial := Hd.noat_ok (c.fact 53 (f := Hd.noat c_Entry "serial"))
  n_Entry_label := Hd.noat_ok (c.fact 54 (f := Hd.noat c_Entry "label"))
  n_Entry_word := Hd.noat_ok (c.fact 55 (f := Hd.noat c_Entry "word"))
  n_Entry_armed := Hd.noat_ok (c.fact 56 (f := Hd.noat c_Entry "armed"))
  k_Entry := Hd.mkr_ok (c.fact 57 (f := Hd.mkr c_Entry a_Entry_init))
  m_Entry_twin := Hd.meth_ok (c.fact 58 (f := Hd.meth c_Entry "twin" a_Entry_twin))
  g_WaitSet := Hd.nsRef_ok X G (c.fact 59 (f := Hd.nsRef "WaitSet" c_WaitSet))
  cl_WaitSet := Hd.cls_ok (c.fact 60 (f := Hd.cls c_WaitSet))
  n_WaitSet_entries := Hd.noat_ok (c.fact 61 (f := Hd.noat c_WaitSet "entries"))
  n_WaitSet_row := Hd.noat_ok (c.fact 62 (f := Hd.noat c_WaitSet "row"))
  k_WaitSet := Hd.mkr_ok (c.fact 63 (f := Hd.mkr c_WaitSet a_WaitSet_init))
  pr_WaitSet_kind := Hd.prop_ok (c.fact 64 (f := Hd.prop_ c_WaitSet "kind" p_WaitSet_kind a_WaitSet_kind))
  m_WaitSet_keyed := Hd.meth_ok (c.fact 65 (f := Hd.meth c_WaitSet "keyed" a_WaitSet_keyed))
  m_WaitSet_labelled := Hd.meth_ok (c.fact 66 (f := Hd.meth c_WaitSet "labelled" a_WaitSet_labelled))
  m_WaitSet_append_pending := Hd.meth_ok (c.fact 67 (f := Hd.meth c_WaitSet "append_pending" a_WaitSet_append_pending))
  m_WaitSet_drop := Hd.meth_ok (c.fact 68 (f := Hd.meth c_WaitSet "drop" a_WaitSet_drop))
  m_WaitSet_forget := Hd.meth_ok (c.fact 69 (f := Hd.meth c_WaitSet "forget" a_WaitSet_forget))
  m_WaitSet_twin := Hd.meth_ok (c.fact 70 (f := Hd.meth c_WaitSet "twin" a_WaitSet_twin))
  g_ARGUMENTS := Hd.nsRef_ok X G (c.fact 71 (f := Hd.nsRef "ARGUMENTS" a_ARGUMENTS))
  t_ARGUMENTS := Hd.table_of (c.tabW 0) rfl (fun z hz => (by simp only [List.mem_cons, List.not_mem_nil, or_false] at hz; rcases hz with rfl | rfl | rfl | rfl | rfl | rfl | rfl | rfl | rfl | rfl | rfl | rfl | rfl | rfl | rfl | rfl; exact Hd.nsV_ok (c.fact 72 (f := Hd.nsV a_ARGUMENTS "new_source" (V.ref 523))); exact Hd.nsV_ok (c.fact 73 (f := Hd.nsV a_ARGUMENTS "new_set" (V.ref 524))); exact Hd.nsV_ok (c.fact 74 (f := Hd.nsV a_ARGUMENTS "copy" (V.ref 525))); exact Hd.nsV_ok (c.fact 75 (f := Hd.nsV a_ARGUMENTS "close" (V.ref 526))); exact Hd.nsV_ok (c.fact 76 (f := Hd.nsV a_ARGUMENTS "fork" (V.ref 527))); exact Hd.nsV_ok (c.fact 77 (f := Hd.nsV a_ARGUMENTS "end" (V.ref 528))); exact Hd.nsV_ok (c.fact 78 (f := Hd.nsV a_ARGUMENTS "arrive" (V.ref 529))); exact Hd.nsV_ok (c.fact 79 (f := Hd.nsV a_ARGUMENTS "finish" (V.ref 530))); exact Hd.nsV_ok (c.fact 80 (f := Hd.nsV a_ARGUMENTS "read" (V.ref 531))); exact Hd.nsV_ok (c.fact 81 (f := Hd.nsV a_ARGUMENTS "add" (V.ref 532))); exact Hd.nsV_ok (c.fact 82 (f := Hd.nsV a_ARGUMENTS "change" (V.ref 533))); exact Hd.nsV_ok (c.fact 83 (f := Hd.nsV a_ARGUMENTS "remove" (V.ref 534))); exact Hd.nsV_ok (c.fact 84 (f := Hd.nsV a_ARGUMENTS "wait" (V.ref 535))); exact Hd.nsV_ok (c.fact 85 (f := Hd.nsV a_ARGUMENTS "numbers" (V.ref 536))); exact Hd.nsV_ok (c.fact 86 (f := Hd.nsV a_ARGUMENTS "same" (V.ref 537))); exact Hd.nsV_ok (c.fact 87 (f := Hd.nsV a_ARGUMENTS "units" (V.ref 538)))))
  u_ARGUMENTS_new_source := fun H => Hd.tupA_ok (c.fact 88 (f := Hd.tupA 523 [V.str "integer"])) H
  u_ARGUMENTS_new_set := fun H => Hd.tupA_ok (c.fact 89 (f := Hd.tupA 524 [V.str "integer"])) H
  u_ARGUMENTS_copy := fun H => Hd.tupA_ok (c.fact 90 (f := Hd.tupA 525 [V.str "integer", V.str "integer", V.str "optional"])) H
  u_ARGUMENTS_close := fun H => Hd.tupA_ok (c.fact 91 (f := Hd.tupA 526 [V.str "integer", V.str "integer"])) H
  u_ARGUMENTS_fork := fun H => Hd.tupA_ok (c.fact 92 (f := Hd.tupA 527 [V.str "integer"])) H
  u_ARGUMENTS_end := fun H => Hd.tupA_ok (c.fact 93 (f := Hd.tupA 528 [V.str "integer"])) H
  u_ARGUMENTS_arrive := fun H => Hd.tupA_ok (c.fact 94 (f := Hd.tupA 529 [V.str "integer", V.str "integer", V.str "integer"])) H
  u_ARGUMENTS_finish := fun H => Hd.tupA_ok (c.fact 95 (f := Hd.tupA 530 [V.str "integer", V.str "integer"])) H
  u_ARGUMENTS_read := fun H => Hd.tupA_ok (c.fact 96 (f := Hd.tupA 531 [V.str "integer", V.str "integer", V.str "optional"])) H
  u_ARGUMENTS_add := fun H => Hd.tupA_ok (c.fact 97 (f := Hd.tupA 532 [V.str "integer", V.str "integer", V.str "integer", V.str "integer", V.str "word"])) H
  u_ARGUMENTS_change := fun H => Hd.tupA_ok (c.fact 98 (f := Hd.tupA 533 [V.str "integer", V.str "integer", V.str "integer", V.str "word"])) H
  u_ARGUMENTS_remove := fun H => Hd.tupA_ok (c.fact 99 (f := Hd.tupA 534 [V.str "integer", V.str "integer", V.str "integer"])) H
  u_ARGUMENTS_wait := fun H => Hd.tupA_ok (c.fact 100 (f := Hd.tupA 535 [V.str "integer", V.str "integer", V.str "integer"])) H
  u_ARGUMENTS_numbers := fun H => Hd.tupA_ok (c.fact 101 (f := Hd.tupA 536 [V.str "integer"])) H
  u_ARGUMENTS_same := fun H => Hd.tupA_ok (c.fact 102 (f := Hd.tupA 537 [V.str "integer", V.str "integer", V.str "integer", V.str "integer"])) H
  u_ARGUMENTS_units := fun H => Hd.tupA_ok (c.fact 103 (f := Hd.tupA 538 [V.str "integer", V.str "integer"])) H
  g_is_call := Hd.nsRef_ok X G (c.fact 104 (f := Hd.nsRef "is_call" a_is_call))
  g_LEAST_PROCESSES := Hd.nsInt_ok X G (c.fact 105 (f := Hd.nsInt "LEAST_PROCESSES" 2))
  g_LEAST_NUMBERS := Hd.nsInt_ok X G (c.fact 106 (f := Hd.nsInt "LEAST_NUMBERS" 3))
  g_MOST_COUNT := Hd.nsInt_ok X G (c.fact 107 (f := Hd.nsInt "MOST_COUNT" 1000000))
  g_MOST_LABEL := Hd.nsInt_ok X G (c.fact 108 (f := Hd.nsInt "MOST_LABEL" 999999))
  g_look_count := Hd.nsRef_ok X G (c.fact 109 (f := Hd.nsRef "look_count" a_look_count))
  g_look_word := Hd.nsRef_ok X G (c.fact 110 (f := Hd.nsRef "look_word" a_look_word))
  g_System := Hd.nsRef_ok X G (c.fact 111 (f := Hd.nsRef "System" c_System))
  cl_System := Hd.cls_ok (c.fact 112 (f := Hd.cls c_System))
  n_System_process_limit := Hd.noat_ok (c.fact 113 (f := Hd.noat c_System "process_limit"))
  n_System_number_limit := Hd.noat_ok (c.fact 114 (f := Hd.noat c_System "number_limit"))
  n_System_tables := Hd.noat_ok (c.fact 115 (f := Hd.noat c_System "tables"))
  n_System_things := Hd.noat_ok (c.fact 116 (f := Hd.noat c_System "things"))
  n_System_serials_made := Hd.noat_ok (c.fact 117 (f := Hd.noat c_System "serials_made"))
  cr_System := Hd.crd_ok (c.fact 118 (f := Hd.crd c_System))
  cv_System_MOST_PROCESSES := Hd.cvI_ok (c.fact 119 (f := Hd.cvI c_System "MOST_PROCESSES" 6))
  cv_System_MOST_NUMBERS := Hd.cvI_ok (c.fact 120 (f := Hd.cvI c_System "MOST_NUMBERS" 8))
  k_System := Hd.mkr_ok (c.fact 121 (f := Hd.mkr c_System a_System_init))
  pr_System_limits := Hd.prop_ok (c.fact 122 (f := Hd.prop_ c_System "limits" p_System_limits a_System_limits))
  m_System_alive := Hd.meth_ok (c.fact 123 (f := Hd.meth c_System "alive" a_System_alive))
  m_System_table_of := Hd.meth_ok (c.fact 124 (f := Hd.meth c_System "table_of" a_System_table_of))
  m_System_serial_at := Hd.meth_ok (c.fact 125 (f := Hd.meth c_System "serial_at" a_System_serial_at))
  m_System_source_at := Hd.meth_ok (c.fact 126 (f := Hd.meth c_System "source_at" a_System_source_at))
  m_System_set_at := Hd.meth_ok (c.fact 127 (f := Hd.meth c_System "set_at" a_System_set_at))
  m_System_holders := Hd.meth_ok (c.fact 128 (f := Hd.meth c_System "holders" a_System_holders))
  m_System_name_of := Hd.meth_ok (c.fact 129 (f := Hd.meth c_System "name_of" a_System_name_of))
  m_System_serial_named := Hd.meth_ok (c.fact 130 (f := Hd.meth c_System "serial_named" a_System_serial_named))
  m_System_set_serials := Hd.meth_ok (c.fact 131 (f := Hd.meth c_System "set_serials" a_System_set_serials))
  m_System_found_entry := Hd.meth_ok (c.fact 132 (f := Hd.meth c_System "found_entry" a_System_found_entry))
  m_System_lowest_free := Hd.meth_ok (c.fact 133 (f := Hd.meth c_System "lowest_free" a_System_lowest_free))
  m_System_placed := Hd.meth_ok (c.fact 134 (f := Hd.meth c_System "placed" a_System_placed))
  m_System_new_source := Hd.meth_ok (c.fact 135 (f := Hd.meth c_System "new_source" a_System_new_source))
  m_System_new_set := Hd.meth_ok (c.fact 136 (f := Hd.meth c_System "new_set" a_System_new_set))
  m_System_copy := Hd.meth_ok (c.fact 137 (f := Hd.meth c_System "copy" a_System_copy))
  m_System_close := Hd.meth_ok (c.fact 138 (f := Hd.meth c_System "close" a_System_close))
  m_System_fork := Hd.meth_ok (c.fact 139 (f := Hd.meth c_System "fork" a_System_fork))
  m_System_end := Hd.meth_ok (c.fact 140 (f := Hd.meth c_System "end" a_System_end))
  m_System_pend := Hd.meth_ok (c.fact 141 (f := Hd.meth c_System "pend" a_System_pend))
  m_System_arrive := Hd.meth_ok (c.fact 142 (f := Hd.meth c_System "arrive" a_System_arrive))
  m_System_finish := Hd.meth_ok (c.fact 143 (f := Hd.meth c_System "finish" a_System_finish))
  m_System_read := Hd.meth_ok (c.fact 144 (f := Hd.meth c_System "read" a_System_read))
  m_System_add := Hd.meth_ok (c.fact 145 (f := Hd.meth c_System "add" a_System_add))
  m_System_keyed_entry := Hd.meth_ok (c.fact 146 (f := Hd.meth c_System "keyed_entry" a_System_keyed_entry))
  m_System_change := Hd.meth_ok (c.fact 147 (f := Hd.meth c_System "change" a_System_change))
  m_System_remove := Hd.meth_ok (c.fact 148 (f := Hd.meth c_System "remove" a_System_remove))
  m_System_wait := Hd.meth_ok (c.fact 149 (f := Hd.meth c_System "wait" a_System_wait))
  m_System_numbers := Hd.meth_ok (c.fact 150 (f := Hd.meth c_System "numbers" a_System_numbers))
  m_System_same := Hd.meth_ok (c.fact 151 (f := Hd.meth c_System "same" a_System_same))
  m_System_units := Hd.meth_ok (c.fact 152 (f := Hd.meth c_System "units" a_System_units))
  m_System_name := Hd.meth_ok (c.fact 153 (f := Hd.meth c_System "name" a_System_name))
  m_System_row_of := Hd.meth_ok (c.fact 154 (f := Hd.meth c_System "row_of" a_System_row_of))
  m_System_registrations := Hd.meth_ok (c.fact 155 (f := Hd.meth c_System "registrations" a_System_registrations))
  m_System_twin := Hd.meth_ok (c.fact 156 (f := Hd.meth c_System "twin" a_System_twin))
  m_System_answer := Hd.meth_ok (c.fact 157 (f := Hd.meth c_System "answer" a_System_answer))
  m_System_done := Hd.meth_ok (c.fact 158 (f := Hd.meth c_System "done" a_System_done))
  m_System_done_by_process := Hd.meth_ok (c.fact 159 (f := Hd.meth c_System "done_by_process" a_System_done_by_process))
  m_System_done_by_number := Hd.meth_ok (c.fact 160 (f := Hd.meth c_System "done_by_number" a_System_done_by_number))
  m_System_done_by_more := Hd.meth_ok (c.fact 161 (f := Hd.meth c_System "done_by_more" a_System_done_by_more))
  m_System_eq := Hd.meth_ok (c.fact 162 (f := Hd.meth c_System "__eq__" a_System_eq))
  m_System_len := Hd.meth_ok (c.fact 163 (f := Hd.meth c_System "__len__" a_System_len))
  m_System_contains := Hd.meth_ok (c.fact 164 (f := Hd.meth c_System "__contains__" a_System_contains))
  m_System_repr := Hd.meth_ok (c.fact 165 (f := Hd.meth c_System "__repr__" a_System_repr))
  g_picture_of := Hd.nsRef_ok X G (c.fact 166 (f := Hd.nsRef "picture_of" a_picture_of))
  g_STEPS := Hd.nsRef_ok X G (c.fact 167 (f := Hd.nsRef "STEPS" a_STEPS))
  t_STEPS := Hd.table_of (c.tabW 1) rfl (fun z hz => (by simp only [List.mem_cons, List.not_mem_nil, or_false] at hz; rcases hz with rfl | rfl | rfl | rfl | rfl | rfl | rfl; exact Hd.nsV_ok (c.fact 168 (f := Hd.nsV a_STEPS "take" (V.int 1))); exact Hd.nsV_ok (c.fact 169 (f := Hd.nsV a_STEPS "read" (V.int 1))); exact Hd.nsV_ok (c.fact 170 (f := Hd.nsV a_STEPS "close" (V.int 0))); exact Hd.nsV_ok (c.fact 171 (f := Hd.nsV a_STEPS "remove" (V.int 1))); exact Hd.nsV_ok (c.fact 172 (f := Hd.nsV a_STEPS "make" (V.int 0))); exact Hd.nsV_ok (c.fact 173 (f := Hd.nsV a_STEPS "watch" (V.int 3))); exact Hd.nsV_ok (c.fact 174 (f := Hd.nsV a_STEPS "call" (V.int 1)))))
  g_is_step := Hd.nsRef_ok X G (c.fact 175 (f := Hd.nsRef "is_step" a_is_step))
  g_look_workers := Hd.nsRef_ok X G (c.fact 176 (f := Hd.nsRef "look_workers" a_look_workers))
  g_Crew := Hd.nsRef_ok X G (c.fact 177 (f := Hd.nsRef "Crew" c_Crew))
  cl_Crew := Hd.cls_ok (c.fact 178 (f := Hd.cls c_Crew))
  n_Crew_base := Hd.noat_ok (c.fact 179 (f := Hd.noat c_Crew "base"))
  n_Crew_workers := Hd.noat_ok (c.fact 180 (f := Hd.noat c_Crew "workers"))
  n_Crew_places := Hd.noat_ok (c.fact 181 (f := Hd.noat c_Crew "places"))
  n_Crew_takens := Hd.noat_ok (c.fact 182 (f := Hd.noat c_Crew "takens"))
  n_Crew_mades := Hd.noat_ok (c.fact 183 (f := Hd.noat c_Crew "mades"))
  k_Crew := Hd.mkr_ok (c.fact 184 (f := Hd.mkr c_Crew a_Crew_init))
  m_Crew_system := Hd.meth_ok (c.fact 185 (f := Hd.meth c_Crew "system" a_Crew_system))
  m_Crew_again := Hd.meth_ok (c.fact 186 (f := Hd.meth c_Crew "again" a_Crew_again))
  m_Crew_next_step := Hd.meth_ok (c.fact 187 (f := Hd.meth c_Crew "next_step" a_Crew_next_step))
  m_Crew_ready_entry := Hd.meth_ok (c.fact 188 (f := Hd.meth c_Crew "ready_entry" a_Crew_ready_entry))
  m_Crew_is_possible := Hd.meth_ok (c.fact 189 (f := Hd.meth c_Crew "is_possible" a_Crew_is_possible))
  m_Crew_possible := Hd.meth_ok (c.fact 190 (f := Hd.meth c_Crew "possible" a_Crew_possible))
  m_Crew_look_index := Hd.meth_ok (c.fact 191 (f := Hd.meth c_Crew "look_index" a_Crew_look_index))
  m_Crew_after := Hd.meth_ok (c.fact 192 (f := Hd.meth c_Crew "after" a_Crew_after))
  m_Crew_do_step := Hd.meth_ok (c.fact 193 (f := Hd.meth c_Crew "do_step" a_Crew_do_step))
  m_Crew_do_by_taken := Hd.meth_ok (c.fact 194 (f := Hd.meth c_Crew "do_by_taken" a_Crew_do_by_taken))
  m_Crew_is_stray := Hd.meth_ok (c.fact 195 (f := Hd.meth c_Crew "is_stray" a_Crew_is_stray))
  m_Crew_done := Hd.meth_ok (c.fact 196 (f := Hd.meth c_Crew "done" a_Crew_done))
  m_Crew_taken := Hd.meth_ok (c.fact 197 (f := Hd.meth c_Crew "taken" a_Crew_taken))
  m_Crew_made := Hd.meth_ok (c.fact 198 (f := Hd.meth c_Crew "made" a_Crew_made))
  m_Crew_kept_source := Hd.meth_ok (c.fact 199 (f := Hd.meth c_Crew "kept_source" a_Crew_kept_source))
  m_Crew_len := Hd.meth_ok (c.fact 200 (f := Hd.meth c_Crew "__len__" a_Crew_len))
  m_Crew_eq := Hd.meth_ok (c.fact 201 (f := Hd.meth c_Crew "__eq__" a_Crew_eq))
  g_state_of := Hd.nsRef_ok X G (c.fact 202 (f := Hd.nsRef "state_of" a_state_of))
  g__law_bag := Hd.nsRef_ok X G (c.fact 203 (f := Hd.nsRef "_law_bag" a__law_bag))
  g__law_take := Hd.nsRef_ok X G (c.fact 204 (f := Hd.nsRef "_law_take" a__law_take))
  g__law_of := Hd.nsRef_ok X G (c.fact 205 (f := Hd.nsRef "_law_of" a__law_of))
  g__law_made := Hd.nsRef_ok X G (c.fact 206 (f := Hd.nsRef "_law_made" a__law_made))
  g__law_plain := Hd.nsRef_ok X G (c.fact 207 (f := Hd.nsRef "_law_plain" a__law_plain))
  g__law_step := Hd.nsRef_ok X G (c.fact 208 (f := Hd.nsRef "_law_step" a__law_step))
  g__law_found := Hd.nsRef_ok X G (c.fact 209 (f := Hd.nsRef "_law_found" a__law_found))
  g__law_built := Hd.nsRef_ok X G (c.fact 210 (f := Hd.nsRef "_law_built" a__law_built))
  g_law := Hd.nsRef_ok X G (c.fact 211 (f := Hd.nsRef "law" a_law))
  em_BadStep := Hd.exm1_ok (c.fact 212 (f := Hd.exm1 c_BadStep (.ref c_BadStep) true))
  ec_BadStep := Hd.excC_ok (c.fact 213 (f := Hd.excC c_BadStep))
  ki_BadStep_TypeError := Hd.kit1_ok (c.fact 214 (f := Hd.kit1 c_BadStep (.type "TypeError") true))
  kn_BadStep_BadCall_NotASet_NotASource := Hd.kitN_ok (c.fact 215 (f := Hd.kitN c_BadStep [.ref c_BadCall, .ref c_NotASet, .ref c_NotASource] false))
  z_len := Hd.nsFree_ok X G (c.fact 216 (f := Hd.nsFree "len"))
  z_isinstance := Hd.nsFree_ok X G (c.fact 217 (f := Hd.nsFree "isinstance"))
  z_int := Hd.nsFree_ok X G (c.fact 218 (f := Hd.nsFree "int"))
  z_bool := Hd.nsFree_ok X G (c.fact 219 (f := Hd.nsFree "bool"))
  z_str := Hd.nsFree_ok X G (c.fact 220 (f := Hd.nsFree "str"))
  z_tuple := Hd.nsFree_ok X G (c.fact 221 (f := Hd.nsFree "tuple"))
  z_list := Hd.nsFree_ok X G (c.fact 222 (f := Hd.nsFree "list"))
  z_range := Hd.nsFree_ok X G (c.fact 223 (f := Hd.nsFree "range"))
  z_enumerate := Hd.nsFree_ok X G (c.fact 224 (f := Hd.nsFree "enumerate"))
  z_zip := Hd.nsFree_ok X G (c.fact 225 (f := Hd.nsFree "zip"))
  z_sorted := Hd.nsFree_ok X G (c.fact 226 (f := Hd.nsFree "sorted"))
  z_min := Hd.nsFree_ok X G (c.fact 227 (f := Hd.nsFree "min"))
  z_max := Hd.nsFree_ok X G (c.fact 228 (f := Hd.nsFree "max"))
  z_abs := Hd.nsFree_ok X G (c.fact 229 (f := Hd.nsFree "abs"))
  z_repr := Hd.nsFree_ok X G (c.fact 230 (f := Hd.nsFree "repr"))
  z_TypeError := Hd.nsFree_ok X G (c.fact 231 (f := Hd.nsFree "TypeError"))
  z_ValueError := Hd.nsFree_ok X G (c.fact 232 (f := Hd.nsFree "ValueError"))
  z_RuntimeError := Hd.nsFree_ok X G (c.fact 233 (f := Hd.nsFree "RuntimeError"))
  z_OverflowError := Hd.nsFree_ok X G (c.fact 234 (f := Hd.nsFree "OverflowError"))
  z_LookupError := Hd.nsFree_ok X G (c.fact 235 (f := Hd.nsFree "LookupError"))
  f_NoProcess_init := c.def_ 0
  f_NotOpen_init := c.def_ 1
  f_NoNumber_init := c.def_ 2
  f_NotRegistered_init := c.def_ 3
  f_NotASource_init := c.def_ 4
  f_NotASet_init := c.def_ 5
  f_BadCall_init := c.def_ 6
  f_BadStep_init := c.def_ 7
  f_BadCount_init := c.def_ 8
  f_BadLabel_init := c.def_ 9
  f_BadWord_init := c.def_ 10
  f_BadLimit_init := c.def_ 11
  f_Full_init := c.def_ 12
  f_NoRoom_init := c.def_ 13
  f_Finished_init := c.def_ 14
  f_Registered_init := c.def_ 15
  f_Taken_init := c.def_ 16
  f_is_integer := c.def_ 17
  f_is_between := c.def_ 18
  f_Source_init := c.def_ 19
  f_Source_kind := c.def_ 20
  f_Source_is_ready := c.def_ 21
  f_Source_taken := c.def_ 22
  f_Source_twin := c.def_ 23
  f_Entry_init := c.def_ 24
  f_Entry_twin := c.def_ 25
  f_WaitSet_init := c.def_ 26
  f_WaitSet_kind := c.def_ 27
  f_WaitSet_keyed := c.def_ 28
  f_WaitSet_labelled := c.def_ 29
  f_WaitSet_append_pending := c.def_ 30
  f_WaitSet_drop := c.def_ 31
  f_WaitSet_forget := c.def_ 32
  f_WaitSet_twin := c.def_ 33
  f_is_call := c.def_ 34
  f_look_count := c.def_ 35
  f_look_word := c.def_ 36
  f_System_init := c.def_ 37
  f_System_limits := c.def_ 38
  f_System_alive := c.def_ 39
  f_System_table_of := c.def_ 40
  f_System_serial_at := c.def_ 41
  f_System_source_at := c.def_ 42
  f_System_set_at := c.def_ 43
  f_System_holders := c.def_ 44
  f_System_name_of := c.def_ 45
  f_System_serial_named := c.def_ 46
  f_System_set_serials := c.def_ 47
  f_System_found_entry := c.def_ 48
  f_System_lowest_free := c.def_ 49
  f_System_placed := c.def_ 50
  f_System_new_source := c.def_ 51
  f_System_new_set := c.def_ 52
  f_System_copy := c.def_ 53
  f_System_close := c.def_ 54
  f_System_fork := c.def_ 55
  f_System_end := c.def_ 56
  f_System_pend := c.def_ 57
  f_System_arrive := c.def_ 58
  f_System_finish := c.def_ 59
  f_System_read := c.def_ 60
  f_System_add := c.def_ 61
  f_System_keyed_entry := c.def_ 62
  f_System_change := c.def_ 63
  f_System_remove := c.def_ 64
  f_System_wait := c.def_ 65
  f_System_numbers := c.def_ 66
  f_System_same := c.def_ 67
  f_System_units := c.def_ 68
  f_System_name := c.def_ 69
  f_System_row_of := c.def_ 70
  f_System_registrations := c.def_ 71
  f_System_twin := c.def_ 72
  f_System_answer := c.def_ 73
  f_System_done := c.def_ 74
  f_System_done_by_process := c.def_ 75
  f_System_done_by_number := c.def_ 76
  f_System_done_by_more := c.def_ 77
  f_System_eq := c.def_ 78
  f_System_len := c.def_ 79
  f_System_contains := c.def_ 80
  f_System_repr := c.def_ 81
  f_picture_of := c.def_ 82
  f_is_step := c.def_ 83
  f_look_workers := c.def_ 84
  f_Crew_init := c.def_ 85
  f_Crew_system := c.def_ 86
  f_Crew_again := c.def_ 87
  f_Crew_next_step := c.def_ 88
  f_Crew_ready_entry := c.def_ 89
  f_Crew_is_possible := c.def_ 90
  f_Crew_possible := c.def_ 91
  f_Crew_look_index := c.def_ 92
  f_Crew_after := c.def_ 93
  f_Crew_do_step := c.def_ 94
  f_Crew_do_by_taken := c.def_ 95
  f_Crew_is_stray := c.def_ 96
  f_Crew_done := c.def_ 97
  f_Crew_taken := c.def_ 98
  f_Crew_made := c.def_ 99
  f_Crew_kept_source := c.def_ 100
  f_Crew_len := c.def_ 101
  f_Crew_eq := c.def_ 102
  f_state_of := c.def_ 103
  f__law_bag := c.def_ 104
  f__law_take := c.def_ 105
  f__law_of := c.def_ 106
  f__law_made := c.def_ 107
  f__law_plain := c.def_ 108
  f__law_step := c.def_ 109
  f__law_found := c.def_ 110
  f__law_built := c.def_ 111
  f_law := c.def_ 112
abbrev R : PySem.W.OpenRow := PySem.W.OpenLaw.row PySem.Challenge.rw_waitnumbers_k74_steps_that_are_none
def hk : PySem.W.Hook := Hd.hook addrs defs facts tabs dvals tvals rfl (fun _ => rfl)
def ob (s : PySem.W.SharedT) : Hd.Al := Hd.obs addrs defs facts tabs (HandSHeadRun.getT s)
theorem ob_eq (s : PySem.W.SharedT) : ob s = hk.obs s.abs := Hd.obs_eq (HandSHeadRun.getT_eq s)
abbrev V_ : Program := PySem.W.view R.prog [57]
theorem p10 (w : World) : Hd.Part R 9107 (w.withFollow "special-get-raises" false) (fun s => (Hd.lookSeen R V_ names (w.withFollow "special-get-raises" false) s, Hd.obF addrs facts (HandSHeadRun.getT s))) ((true, PySem.W.openGood V_ names), true) := by
  intro os
  kernel_rfl
theorem p11 (w : World) : Hd.Part R 9107 (w.withFollow "special-get-raises" true) (fun s => (Hd.lookSeen R V_ names (w.withFollow "special-get-raises" true) s, Hd.obF addrs facts (HandSHeadRun.getT s))) ((true, PySem.W.openGood V_ names), true) := by
  intro os
  kernel_rfl
theorem p20 (w : World) : Hd.Part R 9107 (w.withFollow "special-get-raises" false) (fun s => Hd.obD addrs defsA (HandSHeadRun.getT s)) (true, dvalsA) := by
  intro os
  kernel_rfl
theorem p21 (w : World) : Hd.Part R 9107 (w.withFollow "special-get-raises" true) (fun s => Hd.obD addrs defsA (HandSHeadRun.getT s)) (true, dvalsA) := by
  intro os
  kernel_rfl
theorem p30 (w : World) : Hd.Part R 9107 (w.withFollow "special-get-raises" false) (fun s => (Hd.obD addrs defsB (HandSHeadRun.getT s), Hd.obT addrs tabs (HandSHeadRun.getT s))) ((true, dvalsB), tvals (w.withFollow "special-get-raises" false)) := by
  intro os
  kernel_rfl
theorem p31 (w : World) : Hd.Part R 9107 (w.withFollow "special-get-raises" true) (fun s => (Hd.obD addrs defsB (HandSHeadRun.getT s), Hd.obT addrs tabs (HandSHeadRun.getT s))) ((true, dvalsB), tvals (w.withFollow "special-get-raises" true)) := by
  intro os
  kernel_rfl
theorem run (w : World) : HandSHeadRun.RunEq R V_ hk ob 9107 names w :=
  Hd.run_of3 (Hd.Part.byRow (f := fun w s => (Hd.lookSeen R V_ names w s, Hd.obF addrs facts (HandSHeadRun.getT s))) (v := fun _ => ((true, PySem.W.openGood V_ names), true)) p10 p11 w) (Hd.Part.byRow (f := fun _ s => Hd.obD addrs defsA (HandSHeadRun.getT s)) (v := fun _ => (true, dvalsA)) p20 p21 w)
    (Hd.Part.byRow (f := fun _ s => (Hd.obD addrs defsB (HandSHeadRun.getT s), Hd.obT addrs tabs (HandSHeadRun.getT s))) (v := fun w => ((true, dvalsB), tvals w)) p30 p31 w) rfl rfl
end Wn
set_option Elab.async false
set_option linter.all false
set_option maxRecDepth 100000
set_option maxHeartbeats 4000000
namespace Wn
open PySem PySem.Spec PyProof.Rows L2 Wl
section
variable {P : Program} {w : World} {K : PySem.W.Frag} {mg : Str → Option Value} {base : Heap}
/-! ### is_integer -/
def isInteger : PyData → Bool
  | .int _ => true
  | _ => false
theorem isInteger_eq (d : PyData) : (is_int d && !is_bool d) = isInteger d := by cases d <;> rfl
def sp_is_integer (K : PySem.W.Frag) : Sp := fun vs H Q _ => ∃ v d, vs = [v] ∧ Dp K H v d ∧ Q (.bl (isInteger d)) H
theorem sc_is_integer : FnScope ["thing"] ["thing"] (defScope s_is_integer) := ⟨rfl, rfl, rfl, by decide +kernel, rfl, by decide +kernel, by decide +kernel⟩
theorem ok_is_integer (T : Txt w K mg) : FnG P w K mg base 1 a_is_integer (sp_is_integer K) := by
  obtain ⟨fd, F⟩ := T.f_is_integer
  refine fnG_of (dvs := []) (ps := ["thing"]) F sc_is_integer ⟨[], .nil, F.bindsN fun _ _ _ _ _ _ us hl => match us, hl with | [_], _ => rfl⟩ (fun vs H Q E h => ?_) (fun cdv A outer s H vs Q E hg hr h => ?_)
  · obtain ⟨v, d, rfl, _⟩ := h
    rfl
  · obtain ⟨v, d, rfl, hd, k⟩ := h
    refine ⟨_, pss_one (ps_ret (pe_and (pe_callB ci_int rfl T.z_isinstance bt_isinstance (pa_cons (pv 0) (pa_cons (pgt T.z_int bt_int rfl) pa_nil)))
      (pe_one (pe_not (pe_callB ci_bool rfl T.z_isinstance bt_isinstance (pa_cons (pv 0) (pa_cons (pgt T.z_bool bt_bool rfl) pa_nil))))))), ?_⟩
    refine ⟨_, rfl, v, d, rfl, hd, _, rfl, ?_⟩
    rw [← isInteger_eq] at k
    cases e : is_int d with
    | true =>
      rw [e] at k
      exact iteT ⟨_, rfl, v, d, rfl, hd, _, rfl, k⟩
    | false =>
      rw [e] at k
      exact iteF k
end
end Wn
set_option Elab.async false
set_option linter.all false
set_option maxRecDepth 100000
set_option maxHeartbeats 4000000
namespace Wn
open PySem PySem.Spec PyProof.Rows L2 Wl
section
variable {P : Program} {w : World} {K : PySem.W.Frag} {mg : Str → Option Value} {base : Heap}
/-! ### is_call -/
def argN : List (Str × Nat) := [("new_source", 1), ("new_set", 1), ("copy", 3), ("close", 2), ("fork", 1), ("end", 1), ("arrive", 3), ("finish", 2), ("read", 3), ("add", 5), ("change", 4), ("remove", 3), ("wait", 3), ("numbers", 1), ("same", 4), ("units", 2)]
def isCall : PyData → Bool
  | .tuple (.str z :: r) => (match argN.lookup z with
    | some n => decide (r.length = n)
    | none => false)
  | _ => false
theorem lookup_mem {β : Type} {z : Str} : ∀ {l : List (Str × β)} {v : β}, l.lookup z = some v → (z, v) ∈ l
  | (k, b) :: r, v, h => by
    rw [List.lookup_cons] at h
    cases q : (z == k) with
    | true =>
      rw [q] at h
      have e : b = v := Option.some.inj h
      rw [beq_iff_eq.mp q, e]
      exact List.mem_cons_self
    | false =>
      rw [q] at h
      exact List.mem_cons_of_mem _ (lookup_mem h)
theorem lookup_no {β : Type} {z : Str} : ∀ {l : List (Str × β)}, l.lookup z = none → z ∉ l.map (·.1)
  | [], _, q => by cases q
  | (k, b) :: r, h, q => by
    rw [List.lookup_cons] at h
    cases e : (z == k) with
    | true =>
      rw [e] at h
      cases h
    | false =>
      rw [e] at h
      rcases List.mem_cons.mp (show z ∈ k :: r.map (·.1) from q) with q | q
      · rw [q, beq_self_eq_true] at e
        cases e
      · exact lookup_no h q
theorem arg_there (T : Txt w K mg) {z : Str} {n : Nat} (h : argN.lookup z = some n) : ∃ a xs, KDct K w a_ARGUMENTS z (.ref a) ∧ (xs : List V).length = n ∧ (∀ H, SqT K H a xs) ∧ ∃ u, PySem.W.nsIn K a_ARGUMENTS z = some (some u) := by
  have hm := lookup_mem h
  obtain ⟨es, m, D⟩ := T.t_ARGUMENTS.kd
  have key : ∃ (a : Addr) (xs : List V), (z, V.ref a) ∈ kv_ARGUMENTS ∧ xs.length = n ∧ ∀ H, SqT K H a xs := by
    simp only [argN, List.mem_cons, List.not_mem_nil, or_false, Prod.mk.injEq] at hm
    rcases hm with ⟨rfl, rfl⟩ | ⟨rfl, rfl⟩ | ⟨rfl, rfl⟩ | ⟨rfl, rfl⟩ | ⟨rfl, rfl⟩ | ⟨rfl, rfl⟩ | ⟨rfl, rfl⟩ | ⟨rfl, rfl⟩ | ⟨rfl, rfl⟩ | ⟨rfl, rfl⟩ | ⟨rfl, rfl⟩ | ⟨rfl, rfl⟩ | ⟨rfl, rfl⟩ | ⟨rfl, rfl⟩ | ⟨rfl, rfl⟩ | ⟨rfl, rfl⟩
    · exact ⟨_, _, List.mem_of_getElem? (i := 0) rfl, rfl, T.u_ARGUMENTS_new_source⟩
    · exact ⟨_, _, List.mem_of_getElem? (i := 1) rfl, rfl, T.u_ARGUMENTS_new_set⟩
    · exact ⟨_, _, List.mem_of_getElem? (i := 2) rfl, rfl, T.u_ARGUMENTS_copy⟩
    · exact ⟨_, _, List.mem_of_getElem? (i := 3) rfl, rfl, T.u_ARGUMENTS_close⟩
    · exact ⟨_, _, List.mem_of_getElem? (i := 4) rfl, rfl, T.u_ARGUMENTS_fork⟩
    · exact ⟨_, _, List.mem_of_getElem? (i := 5) rfl, rfl, T.u_ARGUMENTS_end⟩
    · exact ⟨_, _, List.mem_of_getElem? (i := 6) rfl, rfl, T.u_ARGUMENTS_arrive⟩
    · exact ⟨_, _, List.mem_of_getElem? (i := 7) rfl, rfl, T.u_ARGUMENTS_finish⟩
    · exact ⟨_, _, List.mem_of_getElem? (i := 8) rfl, rfl, T.u_ARGUMENTS_read⟩
    · exact ⟨_, _, List.mem_of_getElem? (i := 9) rfl, rfl, T.u_ARGUMENTS_add⟩
    · exact ⟨_, _, List.mem_of_getElem? (i := 10) rfl, rfl, T.u_ARGUMENTS_change⟩
    · exact ⟨_, _, List.mem_of_getElem? (i := 11) rfl, rfl, T.u_ARGUMENTS_remove⟩
    · exact ⟨_, _, List.mem_of_getElem? (i := 12) rfl, rfl, T.u_ARGUMENTS_wait⟩
    · exact ⟨_, _, List.mem_of_getElem? (i := 13) rfl, rfl, T.u_ARGUMENTS_numbers⟩
    · exact ⟨_, _, List.mem_of_getElem? (i := 14) rfl, rfl, T.u_ARGUMENTS_same⟩
    · exact ⟨_, _, List.mem_of_getElem? (i := 15) rfl, rfl, T.u_ARGUMENTS_units⟩
  obtain ⟨a, xs, hk, hl, hs⟩ := key
  obtain ⟨u, hu, ru⟩ := T.t_ARGUMENTS.val _ hk
  exact ⟨a, xs, ⟨es, m, u, D.at_, D.lit, hu, ru⟩, hl, hs, u, hu⟩
theorem arg_not (T : Txt w K mg) {z : Str} (h : argN.lookup z = none) : PySem.W.nsIn K a_ARGUMENTS z = some none := T.t_ARGUMENTS.miss z (show z ∉ argN.map (·.1) from lookup_no h)
/-- the parts of a tuple of data -/
theorem dp_tup {H : Hp} {v : V} {ds : List PyData} (h : Dp K H v (.tuple ds)) : ∃ a xs, v = .ref a ∧ SqT K H a xs ∧ DpAll K H xs ds := by
  cases h with
  | tup h1 h2 => exact ⟨_, _, rfl, h1, h2⟩
theorem dpAll_len {H : Hp} : ∀ {xs : List V} {ds : List PyData}, DpAll K H xs ds → xs.length = ds.length
  | _, _, .nil => rfl
  | _, _, .cons _ t => congrArg Nat.succ (dpAll_len t)
theorem is_tuple_of {d : PyData} (h : is_tuple d = true) : ∃ ds, d = .tuple ds := by
  cases d <;> first | exact ⟨_, rfl⟩ | cases h
theorem isCall_not {d : PyData} (h : is_tuple d = false) : isCall d = false := by
  cases d <;> first | rfl | cases h
theorem at0 {α : Type} {y : α} {ys : List α} : atI (y :: ys) 0 = some y := atI_nat (j := 0) rfl
def sp_is_call (K : PySem.W.Frag) : Sp := fun vs H Q _ => ∃ v d, vs = [v] ∧ Dp K H v d ∧ Q (.bl (isCall d)) H
theorem sc_is_call : FnScope ["thing"] ["thing"] (defScope s_is_call) := ⟨rfl, rfl, rfl, by decide +kernel, rfl, by decide +kernel, by decide +kernel⟩
theorem ok_is_call (T : Txt w K mg) : FnG P w K mg base 1 a_is_call (sp_is_call K) := by
  obtain ⟨fd, F⟩ := T.f_is_call
  obtain ⟨es, n, D⟩ := T.t_ARGUMENTS.kd
  refine fnG_of (dvs := []) (ps := ["thing"]) F sc_is_call ⟨[], .nil, F.bindsN fun _ _ _ _ _ _ us hl => match us, hl with | [_], _ => rfl⟩ (fun vs H Q E h => ?_) (fun cdv A outer s H vs Q E hg hr h => ?_)
  · obtain ⟨v, d, rfl, _⟩ := h
    rfl
  · obtain ⟨v, d, rfl, hd, k⟩ := h
    refine ⟨_, pss_cons (ps_if (PW.pt (pw_or (pt_not (pt_val (pe_callB ci_tuple rfl T.z_isinstance bt_isinstance (pa_cons (pv 0) (pa_cons (pgt T.z_tuple bt_tuple rfl) pa_nil)))))
        (pw_or (pt_cmpR op_eq (pe_callB call_len_seq rfl T.z_len bt_len (pa_cons (pv 0) pa_nil)) pe_int (nomark _))
          (pw_or1 (pt_not (pt_val (pe_callB ci_str rfl T.z_isinstance bt_isinstance (pa_cons (pe_ix ix_tup (pv 0) pe_int (fun _ _ => rfl)) (pa_cons (pgt T.z_str bt_str rfl) pa_nil)))))))))
        (pss_one (ps_ret pe_bl)) pss_nil)
      (pss_one (ps_ret (pe_and (pe_cmpR (op_in_kd D) (pe_ix ix_tup (pv 0) pe_int (fun _ _ => rfl)) (pgr T.g_ARGUMENTS rfl) (by rfl))
        (pe_one (pe_cmpR op_eq (pe_callB call_len_seq rfl T.z_len bt_len (pa_cons (pv 0) pa_nil)) (pe_op op_add pe_int (pe_callB call_len_seq rfl T.z_len bt_len (pa_cons (pe_ix ix_kdict (pgr T.g_ARGUMENTS rfl) (pe_ix ix_tup (pv 0) pe_int (fun _ _ => rfl)) (fun _ _ => rfl)) pa_nil))) (nomark _)))))), ?_⟩
    refine ⟨_, rfl, v, d, rfl, hd, _, rfl, ?_⟩
    cases e1 : is_tuple d with
    | false =>
      rw [isCall_not e1] at k
      exact k
    | true =>
      obtain ⟨ds, rfl⟩ := is_tuple_of e1
      obtain ⟨a, xs, rfl, hs, ha⟩ := dp_tup hd
      refine iteF ⟨_, rfl, a, xs, rfl, .inr hs, rfl, _, rfl, ?_⟩
      cases ha with
      | nil => exact k
      | @cons y ys d0 ds' h0 ht =>
        have e2 : decide (V.int (((y :: ys).length : Nat) : Int) = V.int 0) = false := decide_eq_false fun q => by
          have q2 := V.int.inj q
          rw [List.length_cons] at q2
          omega
        rw [e2]
        refine iteF ⟨_, rfl, a, _, 0, y, rfl, rfl, hs, at0, y, d0, rfl, h0, _, rfl, ?_⟩
        cases d0 with
        | str z =>
          refine iteF ?_
          cases h0
          have k' : Q (.bl (match argN.lookup z with | some n => decide (ds'.length = n) | none => false)) H := k
          cases e3 : argN.lookup z with
          | none =>
            rw [e3] at k'
            refine ⟨_, rfl, a, _, 0, _, rfl, rfl, hs, at0, z, _, rfl, rfl, arg_not T e3, _, rfl, ?_⟩
            exact iteF k'
          | some m =>
            rw [e3] at k'
            obtain ⟨b, ts, kd, hl, hT, u, hu⟩ := arg_there T e3
            refine ⟨_, rfl, a, _, 0, _, rfl, rfl, hs, at0, z, _, rfl, rfl, hu, _, rfl, ?_⟩
            refine iteT ⟨_, rfl, a, _, rfl, .inr hs, _, rfl, a, _, 0, _, rfl, rfl, hs, at0, a_ARGUMENTS, z, _, rfl, rfl, kd, b, ts, rfl, .inr (hT _), _, _, rfl, rfl, rfl, ?_⟩
            have e4 : decide (V.int (((V.str z :: ys).length : Nat) : Int) = V.int (1 + (ts.length : Int))) = decide (ds'.length = m) := by
              rw [hl, List.length_cons, dpAll_len ht]
              by_cases q : ds'.length = m
              · rw [decide_eq_true q]
                exact decide_eq_true (by rw [q]; congr 1; omega)
              · rw [decide_eq_false q]
                exact decide_eq_false fun z => q (by have := V.int.inj z; omega)
            show Q (.bl (decide (V.int (((V.str z :: ys).length : Nat) : Int) = V.int (1 + (ts.length : Int))))) H
            rw [e4]
            exact k'
        | _ => exact iteT k
end
end Wn
set_option Elab.async false
set_option linter.all false
set_option maxRecDepth 100000
set_option maxHeartbeats 4000000
namespace Wn
open PySem PySem.Spec PyProof.Rows L2 Wl
section
variable {P : Program} {w : World} {K : PySem.W.Frag} {mg : Str → Option Value} {base : Heap}
/-! ### is_step -/
def stepN : List (Str × Nat) := [("take", 1), ("read", 1), ("close", 0), ("remove", 1), ("make", 0), ("watch", 3), ("call", 1)]
def call1 : List PyData → Bool
  | c :: _ => isCall c
  | [] => false
def isStep : PyData → Bool
  | .tuple (.str z :: r) => (match stepN.lookup z with
    | some n => decide (r.length = n) && (!decide (z = "call") || call1 r)
    | none => false)
  | _ => false
theorem step_there (T : Txt w K mg) {z : Str} {n : Nat} (h : stepN.lookup z = some n) : KDct K w a_STEPS z (.int (n : Nat)) ∧ ∃ u, PySem.W.nsIn K a_STEPS z = some (some u) := by
  have hm := lookup_mem h
  obtain ⟨es, m, D⟩ := T.t_STEPS.kd
  have key : (z, V.int (n : Nat)) ∈ kv_STEPS := by
    simp only [stepN, List.mem_cons, List.not_mem_nil, or_false, Prod.mk.injEq] at hm
    rcases hm with ⟨rfl, rfl⟩ | ⟨rfl, rfl⟩ | ⟨rfl, rfl⟩ | ⟨rfl, rfl⟩ | ⟨rfl, rfl⟩ | ⟨rfl, rfl⟩ | ⟨rfl, rfl⟩
    · exact List.mem_of_getElem? (i := 0) rfl
    · exact List.mem_of_getElem? (i := 1) rfl
    · exact List.mem_of_getElem? (i := 2) rfl
    · exact List.mem_of_getElem? (i := 3) rfl
    · exact List.mem_of_getElem? (i := 4) rfl
    · exact List.mem_of_getElem? (i := 5) rfl
    · exact List.mem_of_getElem? (i := 6) rfl
  obtain ⟨u, hu, ru⟩ := T.t_STEPS.val _ key
  exact ⟨⟨es, m, u, D.at_, D.lit, hu, ru⟩, u, hu⟩
theorem step_not (T : Txt w K mg) {z : Str} (h : stepN.lookup z = none) : PySem.W.nsIn K a_STEPS z = some none := T.t_STEPS.miss z (show z ∉ stepN.map (·.1) from lookup_no h)
theorem isStep_not {d : PyData} (h : is_tuple d = false) : isStep d = false := by
  cases d <;> first | rfl | cases h
def sp_is_step (K : PySem.W.Frag) : Sp := fun vs H Q _ => ∃ v d, vs = [v] ∧ Dp K H v d ∧ Q (.bl (isStep d)) H
theorem sc_is_step : FnScope ["thing"] ["thing"] (defScope s_is_step) := ⟨rfl, rfl, rfl, by decide +kernel, rfl, by decide +kernel, by decide +kernel⟩
theorem at1 {α : Type} {x y : α} {ys : List α} : atI (x :: y :: ys) 1 = some y := atI_nat (j := 1) rfl
theorem ok_is_step (T : Txt w K mg) : FnG P w K mg base 2 a_is_step (sp_is_step K) := by
  obtain ⟨fd, F⟩ := T.f_is_step
  obtain ⟨fd2, F2⟩ := T.f_is_call
  obtain ⟨es, n, D⟩ := T.t_STEPS.kd
  refine fnG_of (dvs := []) (ps := ["thing"]) F sc_is_step ⟨[], .nil, F.bindsN fun _ _ _ _ _ _ us hl => match us, hl with | [_], _ => rfl⟩ (fun vs H Q E h => ?_) (fun cdv A outer s H vs Q E hg hr h => ?_)
  · obtain ⟨v, d, rfl, _⟩ := h
    rfl
  · obtain ⟨v, d, rfl, hd, k⟩ := h
    refine ⟨_, pss_cons (ps_if (PW.pt (pw_or (pt_not (pt_val (pe_callB ci_tuple rfl T.z_isinstance bt_isinstance (pa_cons (pv 0) (pa_cons (pgt T.z_tuple bt_tuple rfl) pa_nil)))))
        (pw_or (pt_cmpR op_eq (pe_callB call_len_seq rfl T.z_len bt_len (pa_cons (pv 0) pa_nil)) pe_int (nomark _))
          (pw_or1 (pt_not (pt_val (pe_callB ci_str rfl T.z_isinstance bt_isinstance (pa_cons (pe_ix ix_tup (pv 0) pe_int (fun _ _ => rfl)) (pa_cons (pgt T.z_str bt_str rfl) pa_nil)))))))))
        (pss_one (ps_ret pe_bl)) pss_nil)
      (pss_cons (ps_if (PW.pt (pw_or (pt_cmpR (op_notIn_kd D) (pe_ix ix_tup (pv 0) pe_int (fun _ _ => rfl)) (pgr T.g_STEPS rfl) (by rfl))
          (pw_or1 (pt_cmpR op_ne (pe_callB call_len_seq rfl T.z_len bt_len (pa_cons (pv 0) pa_nil)) (pe_op op_add pe_int (pe_ix ix_kdict (pgr T.g_STEPS rfl) (pe_ix ix_tup (pv 0) pe_int (fun _ _ => rfl)) (fun _ _ => rfl))) (nomark _)))))
        (pss_one (ps_ret pe_bl)) pss_nil)
      (pss_one (ps_ret (pe_or (pe_cmpR op_ne (pe_ix ix_tup (pv 0) pe_int (fun _ _ => rfl)) pe_str (nomark _))
        (pe_one (pe_gf ((ok_is_call T).callR hg (hr.mono (by omega)) pass) rfl T.g_is_call F2.kp (pa_cons (pe_ix ix_tup (pv 0) pe_int (fun _ _ => rfl)) pa_nil))))))), ?_⟩
    refine ⟨_, rfl, v, d, rfl, hd, _, rfl, ?_⟩
    cases e1 : is_tuple d with
    | false =>
      rw [isStep_not e1] at k
      exact k
    | true =>
      obtain ⟨ds, rfl⟩ := is_tuple_of e1
      obtain ⟨a, xs, rfl, hs, ha⟩ := dp_tup hd
      refine iteF ⟨_, rfl, a, xs, rfl, .inr hs, rfl, _, rfl, ?_⟩
      cases ha with
      | nil => exact k
      | @cons y ys d0 ds' h0 ht =>
        have e2 : decide (V.int (((y :: ys).length : Nat) : Int) = V.int 0) = false := decide_eq_false fun q => by
          have q2 := V.int.inj q
          rw [List.length_cons] at q2
          omega
        rw [e2]
        refine iteF ⟨_, rfl, a, _, 0, y, rfl, rfl, hs, at0, y, d0, rfl, h0, _, rfl, ?_⟩
        cases d0 with
        | str z =>
          refine iteF ?_
          cases h0
          cases e3 : stepN.lookup z with
          | none =>
            have k' : Q (.bl false) H := by
              have k' : Q (.bl (match stepN.lookup z with | some n => decide (ds'.length = n) && (!decide (z = "call") || call1 ds') | none => false)) H := k
              rw [e3] at k'
              exact k'
            refine ⟨_, rfl, a, _, 0, _, rfl, rfl, hs, at0, z, _, rfl, rfl, step_not T e3, _, rfl, ?_⟩
            exact iteT k'
          | some m =>
            have k' : Q (.bl (decide (ds'.length = m) && (!decide (z = "call") || call1 ds'))) H := by
              have k' : Q (.bl (match stepN.lookup z with | some n => decide (ds'.length = n) && (!decide (z = "call") || call1 ds') | none => false)) H := k
              rw [e3] at k'
              exact k'
            obtain ⟨kd, u, hu⟩ := step_there T e3
            refine ⟨_, rfl, a, _, 0, _, rfl, rfl, hs, at0, z, _, rfl, rfl, hu, _, rfl, ?_⟩
            refine iteF ⟨_, rfl, a, _, rfl, .inr hs, _, rfl, a, _, 0, _, rfl, rfl, hs, at0, a_STEPS, z, _, rfl, rfl, kd, _, _, rfl, rfl, rfl, ?_⟩
            have e4 : (!decide (V.int (((V.str z :: ys).length : Nat) : Int) = V.int (1 + ((m : Nat) : Int)))) = !decide (ds'.length = m) := by
              rw [List.length_cons, dpAll_len ht]
              by_cases q : ds'.length = m
              · rw [decide_eq_true q]
                exact congrArg (!·) (decide_eq_true (by rw [q]; congr 1; omega))
              · rw [decide_eq_false q]
                exact congrArg (!·) (decide_eq_false fun z => q (by have := V.int.inj z; omega))
            rw [e4]
            refine ⟨_, rfl, ?_⟩
            by_cases q : ds'.length = m
            · rw [decide_eq_true q] at k' ⊢
              refine iteF ⟨_, rfl, a, _, 0, _, rfl, rfl, hs, at0, rfl, _, rfl, ?_⟩
              by_cases qc : z = "call"
              · subst qc
                obtain rfl : m = 1 := Option.some.inj (e3.symm.trans (by decide +kernel))
                rw [decide_eq_true rfl] at k'
                cases ht with
                | nil => cases q
                | @cons y1 ys1 d1 ds1 h1 ht1 =>
                  rw [decide_eq_true rfl]
                  exact iteF ⟨_, rfl, a, _, 1, _, rfl, rfl, hs, at1, y1, d1, rfl, h1, k'⟩
              · rw [decide_eq_false qc] at k'
                rw [decide_eq_false fun z => qc (V.str.inj z)]
                exact iteT k'
            · rw [decide_eq_false q] at k' ⊢
              exact iteT k'
        | _ => exact iteT k
end
end Wn
set_option Elab.async false
set_option linter.all false
set_option maxRecDepth 100000
set_option maxHeartbeats 4000000
namespace Wn
open PySem PySem.Spec PyProof.Rows L2 Wl
section
variable {P : Program} {w : World} {K : PySem.W.Frag} {mg : Str → Option Value} {base : Heap}
theorem sc_BadStep : FnScope ["self", "worker", "step"] ["self", "worker", "step"] (defScope s_BadStep_init) := ⟨rfl, rfl, rfl, by decide +kernel, rfl, by decide +kernel, by decide +kernel⟩
theorem ok_BadStep {CX : CXT} (T : Txt w K mg) {fd : FuncData} (F : d_BadStep_init.Fun K fd) : FnOk P w K mg base CX 1 a_BadStep_init fd ["self", "worker", "step"] (spErr c_BadStep "BadStep" ["worker", "step"]) := by
  refine F.ok sc_BadStep (fun vs H Q E h => ?_) (fun cdv A outer s H vs Q E hr h => ?_)
  · obtain ⟨a, xs, rfl, hl, _⟩ := h
    exact congrArg Nat.succ hl
  · obtain ⟨a, xs, rfl, hl, ea, q⟩ := h
    match xs, hl with
    | [v1, v2], _ =>
    refine ⟨_, pss_cons (Xb.ps_st (pv 0) pe_str) (pss_cons (Xb.ps_st (pv 0) (pv 1)) (pss_one (Xb.ps_st (pv 0) (pv 2)))), ?_⟩
    refine ⟨_, rfl, a, c_BadStep, rfl, T.x_BadStep.cls, T.x_BadStep.no _ (by decide), .inl ⟨ea, fun dx hd hne => ?_⟩⟩
    refine ⟨_, rfl, _, rfl, a, c_BadStep, rfl, T.x_BadStep.cls, T.x_BadStep.no _ (by decide), .inr ⟨dx, _, upd_same, by rw [upd_ne hne, upd_same], by decide, ?_⟩⟩
    refine ⟨_, rfl, _, rfl, a, c_BadStep, rfl, T.x_BadStep.cls, T.x_BadStep.no _ (by decide), .inr ⟨dx, _, by rw [upd_ne (Ne.symm hne), upd_same], upd_same, (by simp), ?_⟩⟩
    have z := q dx hd hne
    rw [upd_upd, upd_comm (Ne.symm hne), upd_upd]
    exact z
/-! ### look_workers -/
def firstIn : Nat → List PyData → Option Nat
  | _, [] => none
  | j, s :: r => if isStep s = true then firstIn (j + 1) r else some j
def firstBad : Nat → List (List PyData) → Option (Nat × Nat)
  | _, [] => none
  | i, st :: r => match firstIn 0 st with
    | some j => some (i, j)
    | none => firstBad (i + 1) r
/-- a worker: the process and the steps -/
def wk (q : PyData × List PyData) : PyData := .tuple [q.1, .tuple q.2]
def sp_look_workers (K : PySem.W.Frag) : Sp := fun vs H Q E => ∃ (v : V) (ws : List (PyData × List PyData)), vs = [v] ∧ Dp K H v (.tuple (ws.map wk)) ∧ match firstBad 0 (ws.map (·.2)) with
  | none => ∀ H', L2.Same H H' → Q .non H'
  | some (i, j) => ∀ H' d, L2.Same H H' → H' d = none → E (.ref c_BadStep) (some d) (upd H' d (.xd (errF "BadStep" ["worker", "step"] [.int (i : Nat), .int (j : Nat)])))
theorem sc_look_workers : FnScope ["workers", "at", "process", "steps", "place", "step"] ["workers"] (defScope s_look_workers) := ⟨rfl, rfl, rfl, by decide +kernel, rfl, by decide +kernel, by decide +kernel⟩
theorem firstBad_go {ws : List (PyData × List PyData)} {i : Nat} {q : PyData × List PyData} (h : ws[i]? = some q) (e : firstBad 0 (ws.map (·.2)) = firstBad i ((ws.drop i).map (·.2))) :
    firstBad 0 (ws.map (·.2)) = match firstIn 0 q.2 with | some j => some (i, j) | none => firstBad (i + 1) ((ws.drop (i + 1)).map (·.2)) := by
  obtain ⟨hl, hq⟩ := List.getElem?_eq_some_iff.mp h
  rw [e, List.drop_eq_getElem_cons hl, hq]
  rfl
theorem firstIn_go {st : List PyData} {j : Nat} {d : PyData} (h : st[j]? = some d) (e : firstIn 0 st = firstIn j (st.drop j)) : firstIn 0 st = if isStep d = true then firstIn (j + 1) (st.drop (j + 1)) else some j := by
  obtain ⟨hl, hq⟩ := List.getElem?_eq_some_iff.mp h
  rw [e, List.drop_eq_getElem_cons hl, hq]
  rfl
theorem ok_look_workers (T : Txt w K mg) : FnG P w K mg base 3 a_look_workers (sp_look_workers K) := by
  obtain ⟨fd, F⟩ := T.f_look_workers
  obtain ⟨fd2, F2⟩ := T.f_is_step
  obtain ⟨fd3, F3⟩ := T.f_BadStep_init
  refine fnG_of (dvs := []) (ps := ["workers"]) F sc_look_workers ⟨[], .nil, F.bindsN fun _ _ _ _ _ _ us hl => match us, hl with | [_], _ => rfl⟩ (fun vs H Q E h => ?_) (fun cdv A outer s H vs Q E hg hr h => ?_)
  · obtain ⟨v, ws, rfl, _⟩ := h
    rfl
  · obtain ⟨v, ws, rfl, hd, k⟩ := h
    obtain ⟨W, wvs, rfl, hs, ha⟩ := dp_tup hd
    have hlen : wvs.length = ws.length := by rw [dpAll_len ha, List.length_map]
    have nd := sc_look_workers.nd
    refine ⟨_, pss_one (ps_for (passes_of rfl) rfl (pi_enumT rfl T.z_enumerate (pa_cons (pv 0) pa_nil)) (pg_tup rfl (pgs_cons (pg_name (i := 1) nd rfl (.inl rfl)) (pgs_cons (pg_tup rfl (pgs_cons (pg_name (i := 2) nd rfl (.inl rfl)) (pgs_cons (pg_name (i := 3) nd rfl (.inl rfl)) pgs_nil))) pgs_nil)))
      (pss_one (ps_for (passes_of rfl) rfl (pi_enumT rfl T.z_enumerate (pa_cons (pv 3) pa_nil)) (pg_tup rfl (pgs_cons (pg_name (i := 4) nd rfl (.inl rfl)) (pgs_cons (pg_name (i := 5) nd rfl (.inl rfl)) pgs_nil)))
        (pss_one (ps_if (pt_not (pt_val (pe_gf ((ok_is_step T).callR hg (hr.mono (by omega)) pass) rfl T.g_is_step F2.kp (pa_cons (pv 5) pa_nil))))
          (pss_one (ps_raise rfl (takes_of rfl rfl rfl rfl) (pmk_err T.x_BadStep (ok_BadStep T F3) (hr.mono (by omega)) (F3.bindsN fun _ _ _ _ _ _ us hl => match us, hl with | [_, _, _], _ => rfl) passF (by decide) rfl T.g_BadStep (pa_cons (pv 1) (pa_cons (pv 4) pa_nil)))))
          pss_nil))))), ?_⟩
    refine ⟨_, rfl, W, wvs, rfl, hs, ?_⟩
    refine for_it (walk_enumT (xs := wvs)) (fun i σ H' => (∃ v1 v2 v3 v4 v5, σ = [some (.ref W), v1, v2, v3, v4, v5]) ∧ L2.Same H H' ∧ firstBad 0 (ws.map (·.2)) = firstBad i ((ws.drop i).map (·.2))) ⟨⟨_, _, _, _, _, rfl⟩, L2.Same.refl _, rfl⟩ (fun i σ H' hi p => sqt_same p.2.1 hs) (fun i x σ H1 H2 hi p y => ?_) (fun σ H' p => ?_)
    · obtain ⟨⟨v1, v2, v3, v4, v5, rfl⟩, e1, fb⟩ := p
      obtain ⟨Ta, x1, x2, rfl, nT, rfl, ex1, ex2⟩ := y
      obtain rfl := Option.some.inj ex1
      have e2 : L2.Same H (upd H1 Ta (.tup [.int (i : Nat), x2])) := same_new e1 nT
      obtain ⟨d, hdi, hx⟩ := dpAll_get ha ex2
      rw [List.getElem?_map] at hdi
      obtain ⟨q, hq, rfl⟩ := Option.map_eq_some_iff.mp hdi
      obtain ⟨pa, pxs, rfl, hps, hpa⟩ := dp_tup hx
      cases hpa with
      | @cons pv0 r0 _ _ hp0 ht0 =>
      cases ht0 with
      | @cons sv0 r1 _ _ hs0 ht1 =>
      cases ht1
      obtain ⟨sa, svs, rfl, hss, hsa⟩ := dp_tup hs0
      have fb2 := firstBad_go hq fb
      refine ⟨Ta, _, rfl, SqT.of upd_same, rfl, _, _, rfl, _, _, rfl, ⟨pa, _, rfl, sqt_same e2 hps, rfl, _, _, rfl, _, _, rfl, rfl, rfl, ?_⟩⟩
      refine ⟨_, rfl, sa, svs, rfl, sqt_same e2 hss, ?_⟩
      refine for_it (walk_enumT (xs := svs)) (fun j σ H' => (∃ v4 v5, σ = [some (.ref W), some (.int (i : Nat)), some pv0, some (.ref sa), v4, v5]) ∧ L2.Same H H' ∧ firstIn 0 q.2 = firstIn j (q.2.drop j)) ⟨⟨_, _, rfl⟩, e2, rfl⟩ (fun j σ H' hj p => sqt_same p.2.1 hss) (fun j x σ H3 H4 hj p y => ?_) (fun σ H' p => ?_)
      · obtain ⟨⟨v4, v5, rfl⟩, e3, fi⟩ := p
        obtain ⟨Tb, y1, y2, rfl, nT2, rfl, ey1, ey2⟩ := y
        obtain rfl := Option.some.inj ey1
        have e4 : L2.Same H (upd H3 Tb (.tup [.int (j : Nat), y2])) := same_new e3 nT2
        obtain ⟨d, hdj, hy⟩ := dpAll_get hsa ey2
        have fi2 := firstIn_go hdj fi
        refine ⟨Tb, _, rfl, SqT.of upd_same, rfl, _, _, rfl, _, _, rfl, rfl, ?_⟩
        refine ⟨_, rfl, y2, d, rfl, dp_same e4 hy, ?_⟩
        cases eS : isStep d with
        | true =>
          rw [eS] at fi2
          exact ⟨_, rfl, iteF ⟨⟨_, _, rfl⟩, e4, fi2⟩⟩
        | false =>
          rw [eS] at fi2
          have fi3 : firstIn 0 q.2 = some j := fi2
          rw [fi3] at fb2
          rw [fb2] at k
          refine ⟨_, rfl, iteT ⟨_, rfl, _, rfl, rfl, fun dd hdd => ?_⟩⟩
          exact k _ dd e4 hdd
      · obtain ⟨⟨v4, v5, rfl⟩, e3, fi⟩ := p
        have hl2 : svs.length = q.2.length := dpAll_length hsa
        rw [hl2, List.drop_length] at fi
        have fi3 : firstIn 0 q.2 = none := fi
        rw [fi3] at fb2
        exact ⟨⟨_, _, _, _, _, rfl⟩, e3, fb2⟩
    · obtain ⟨⟨v1, v2, v3, v4, v5, rfl⟩, e1, fb⟩ := p
      rw [hlen, List.drop_length] at fb
      have fb3 : firstBad 0 (ws.map (·.2)) = none := fb
      rw [fb3] at k
      exact k _ e1
end
end Wn
set_option Elab.async false
set_option linter.all false
set_option maxRecDepth 100000
set_option maxHeartbeats 4000000
namespace Wl
open PySem PySem.Spec PyProof.Rows L2
section
variable {X : Cx}
/-- what is never reached -/
def tNo : TS := fun _ _ _ => False
theorem ps_no {st : Stmt} : PS X st tNo := ⟨fun _ _ _ _ _ _ h => h.elim⟩
theorem pss_no {b : List Stmt} : PSs X b tNo := ⟨fun _ _ _ _ _ _ h => h.elim⟩
theorem pe_no {e : Expr} : PE X e (fun _ _ _ => False) := ⟨fun _ _ _ _ _ _ h => h.elim⟩
/-- nothing is let out -/
theorem passN : Passes (L2.CX X.prog X.w) X (fun _ _ _ => False) := fun pins σ H s e s' I h => by
  obtain ⟨a, B, H', cls, d, _, _, _, _, _, _, _, h⟩ := h
  exact h.elim
end
theorem same_unlock {H H' : Hp} {d : Addr} {u f : HO} (e : L2.Same (upd H d f) H') (h : H d = some u) : L2.Same H (upd H' d u) := fun b o q => by
  by_cases z : b = d
  · subst z
    rw [upd_same]
    rw [h] at q
    exact q
  · rw [upd_ne z]
    exact e b o (by rw [upd_ne z]; exact q)
theorem putF_le (f : Str) (v : V) : ∀ fs : List (Str × V), (putF f v fs).length ≤ fs.length + 1
  | [] => Nat.le_refl _
  | (g, x) :: r => by
    unfold putF
    split
    · exact Nat.le_succ _
    · exact Nat.succ_le_succ (putF_le f v r)
theorem putF_bd {f : Str} {v : V} {fs : List (Str × V)} {m n : Nat} (h : fs.length + (m + 1) < n) : (putF f v fs).length + m < n := by
  have := putF_le f v fs
  omega
end Wl
local macro_rules | `(tactic| walk_at "plen") => `(tactic| (show _ + 0 < _; (repeat' apply Wl.putF_bd); first | decide | simp))
namespace Wn
open PySem PySem.Spec PyProof.Rows L2 Wl
section
variable {P : Program} {w : World} {K : PySem.W.Frag} {mg : Str → Option Value} {base : Heap}
/-! ### is_between -/
def between (d : PyData) (lo hi : Int) : Bool := match d with
  | .int i => decide (lo ≤ i) && decide (i ≤ hi)
  | _ => false
def sp_is_between (K : PySem.W.Frag) : Sp := fun vs H Q _ => ∃ v d lo hi, vs = [v, .int lo, .int hi] ∧ Dp K H v d ∧ Q (.bl (between d lo hi)) H
theorem sc_is_between : FnScope ["thing", "low", "high"] ["thing", "low", "high"] (defScope s_is_between) := ⟨rfl, rfl, rfl, by decide +kernel, rfl, by decide +kernel, by decide +kernel⟩
theorem ok_is_between (T : Txt w K mg) : FnG P w K mg base 2 a_is_between (sp_is_between K) := by
  obtain ⟨fd, F⟩ := T.f_is_between
  obtain ⟨fd2, F2⟩ := T.f_is_integer
  refine fnG_of (dvs := []) (ps := ["thing", "low", "high"]) F sc_is_between ⟨[], .nil, F.bindsN fun _ _ _ _ _ _ us hl => match us, hl with | [_, _, _], _ => rfl⟩ (fun vs H Q E h => ?_) (fun cdv A outer s H vs Q E hg hr h => ?_)
  · obtain ⟨v, d, lo, hi, rfl, _⟩ := h
    rfl
  · obtain ⟨v, d, lo, hi, rfl, hd, k⟩ := h
    refine ⟨_, pss_one (ps_ret (pe_and (pe_gf ((ok_is_integer T).callR hg (hr.mono (by omega)) pass) rfl T.g_is_integer F2.kp (pa_cons (pv 0) pa_nil)) (pe_one (pe_chain op_le op_le (pv 1) (pv 0) (pv 2))))), ?_⟩
    refine ⟨_, rfl, v, d, rfl, hd, _, rfl, ?_⟩
    cases d with
    | int i =>
      cases hd
      refine iteT ⟨_, rfl, _, rfl, _, _, rfl, rfl, _, rfl, ?_⟩
      have k' : Q (.bl (decide (lo ≤ i) && decide (i ≤ hi))) H := k
      by_cases q : lo ≤ i
      · rw [decide_eq_true q] at k' ⊢
        exact iteT ⟨_, rfl, _, _, rfl, rfl, k'⟩
      · rw [decide_eq_false q] at k' ⊢
        exact iteF k'
    | _ => exact iteF k
/-! ### a system as it is made -/
def boxF (pl nl : Int) (td th : Addr) : List (Str × V) := [("process_limit", .int pl), ("number_limit", .int nl), ("tables", .ref td), ("things", .ref th), ("serials_made", .int 0)]
structure BoxAt (H : Hp) (x dx td t0 th : Addr) (pl nl : Int) : Prop where
  pl0 : 2 ≤ pl
  pl1 : pl ≤ 6
  nl0 : 3 ≤ nl
  nl1 : nl ≤ 8
  ins : H x = some (.ins c_System dx (boxF pl nl td th))
  tabs : H td = some (.dK [(.inl 0, .ref t0)])
  tab0 : H t0 = some (.dK [])
  thgs : H th = some (.dK [])
def Box (H : Hp) (x : Addr) : Prop := ∃ dx td t0 th pl nl, BoxAt H x dx td t0 th pl nl
theorem Box.same {H H' : Hp} {x : Addr} (b : Box H x) (e : L2.Same H H') : Box H' x := by
  obtain ⟨dx, td, t0, th, pl, nl, b⟩ := b
  exact ⟨dx, td, t0, th, pl, nl, b.pl0, b.pl1, b.nl0, b.nl1, e _ _ b.ins, e _ _ b.tabs, e _ _ b.tab0, e _ _ b.thgs⟩
def sp_System_init : Sp := fun vs H Q _ => ∃ x dx pl nl, vs = [.ref x, .int pl, .int nl] ∧ 2 ≤ pl ∧ pl ≤ 6 ∧ 3 ≤ nl ∧ nl ≤ 8 ∧ H x = some (.ins c_System dx []) ∧ ∀ H', (∀ b o, b ≠ x → H b = some o → H' b = some o) → Box H' x → Q .non H'
theorem sc_System_init : FnScope ["self", "processes", "numbers"] ["self", "processes", "numbers"] (defScope s_System_init) := ⟨rfl, rfl, rfl, by decide +kernel, rfl, by decide +kernel, by decide +kernel⟩
theorem ok_System_init (T : Txt w K mg) {fd : FuncData} (F : d_System_init.Fun K fd) : FnK P w K mg base 3 a_System_init fd ["self", "processes", "numbers"] sp_System_init := by
  obtain ⟨fd2, F2⟩ := T.f_is_between
  obtain ⟨u1, cv1⟩ := T.cv_System_MOST_PROCESSES
  obtain ⟨u2, cv2⟩ := T.cv_System_MOST_NUMBERS
  refine fnK_of F sc_System_init (fun vs H Q E h => ?_) (fun cdv A outer s H vs Q E hg hr h => ?_)
  · obtain ⟨x, dx, pl, nl, rfl, _⟩ := h
    rfl
  · obtain ⟨x, dx, pl, nl, rfl, p0, p1, n0, n1, hx, k⟩ := h
    refine ⟨_, pss_cons (ps_if (pt_not (pt_val (pe_gf ((ok_is_between T).callR hg (hr.mono (by omega)) pass) rfl T.g_is_between F2.kp (pa_cons (pv 1) (pa_cons (pgi T.g_LEAST_PROCESSES rfl) (pa_cons (ClX.pe_cval (pgr T.g_System rfl)) pa_nil)))))) pss_no pss_nil)
      (pss_cons (ps_if (pt_not (pt_val (pe_gf ((ok_is_between T).callR hg (hr.mono (by omega)) pass) rfl T.g_is_between F2.kp (pa_cons (pv 2) (pa_cons (pgi T.g_LEAST_NUMBERS rfl) (pa_cons (ClX.pe_cval (pgr T.g_System rfl)) pa_nil)))))) pss_no pss_nil)
      (pss_cons (ps_fld (pv 0) (pv 1) rfl) (pss_cons (ps_fld (pv 0) (pv 2) rfl) (pss_cons (ps_fld (pv 0) (pe_disp (pps_cons pe_int pe_dnewK pps_nil) rfl rfl (by decide) (by decide)) rfl)
      (pss_cons (ps_fld (pv 0) pe_dnewK rfl) (pss_one (ps_fld (pv 0) pe_int rfl))))))), ?_⟩
    have b1 : between (.int pl) 2 6 = true := by
      show (decide (2 ≤ pl) && decide (pl ≤ 6)) = true
      rw [decide_eq_true p0, decide_eq_true p1] <;> rfl
    have b2 : between (.int nl) 3 8 = true := by
      show (decide (3 ≤ nl) && decide (nl ≤ 8)) = true
      rw [decide_eq_true n0, decide_eq_true n1] <;> rfl
    refine ⟨_, rfl, c_System, _, _, _, rfl, T.cr_System, cv1, _, .int pl, _, _, rfl, .int pl, ?_⟩
    rw [b1]
    refine ⟨_, rfl, iteF ⟨_, rfl, c_System, _, _, _, rfl, T.cr_System, cv2, _, .int nl, _, _, rfl, .int nl, ?_⟩⟩
    rw [b2]
    refine ⟨_, rfl, iteF ?_⟩
    refine ⟨_, rfl, _, rfl, x, c_System, dx, _, rfl, hx, T.cl_System, T.n_System_process_limit, by decide, ?_⟩
    refine ⟨_, rfl, _, rfl, x, c_System, dx, _, rfl, upd_same, T.cl_System, T.n_System_number_limit, (by walk_at "plen"), ?_⟩
    rw [upd_upd]
    intro td htd t0 ht0
    have e1 : td ≠ x := fun z => by rw [z, upd_same] at htd; cases htd
    have e2 : t0 ≠ td := fun z => by rw [z, upd_same] at ht0; cases ht0
    have e3 : t0 ≠ x := fun z => by rw [z, upd_ne (Ne.symm e1), upd_same] at ht0; cases ht0
    have ntd : H td = none := by rw [upd_ne e1] at htd; exact htd
    have nt0 : H t0 = none := by rw [upd_ne e2, upd_ne e3] at ht0; exact ht0
    refine ⟨by rw [upd_ne (Ne.symm e2), upd_same], [(.inl 0, .ref t0)], rfl, (by simp), ?_⟩
    refine ⟨_, rfl, x, c_System, dx, _, rfl, by rw [upd_ne (Ne.symm e1), upd_ne (Ne.symm e3), upd_ne (Ne.symm e1), upd_same], T.cl_System, T.n_System_tables, (by walk_at "plen"), ?_⟩
    intro th hth
    have e4 : th ≠ x := fun z => by rw [z, upd_same] at hth; cases hth
    have e5 : th ≠ td := fun z => by rw [z, upd_ne e1, upd_same] at hth; cases hth
    have e6 : th ≠ t0 := fun z => by rw [z, upd_ne e3, upd_ne e2, upd_same] at hth; cases hth
    have nth : H th = none := by rw [upd_ne e4, upd_ne e5, upd_ne e6, upd_ne e5, upd_ne e4] at hth; exact hth
    refine ⟨_, rfl, x, c_System, dx, _, rfl, by rw [upd_ne (Ne.symm e4), upd_same], T.cl_System, T.n_System_things, (by walk_at "plen"), ?_⟩
    refine ⟨_, rfl, x, c_System, dx, _, rfl, upd_same, T.cl_System, T.n_System_serials_made, (by walk_at "plen"), ?_⟩
    refine k _ (fun b o hb q => ?_) ⟨dx, td, t0, th, pl, nl, p0, p1, n0, n1, upd_same, ?_, ?_, ?_⟩
    · have z1 : b ≠ td := fun z => by rw [z, ntd] at q; cases q
      have z2 : b ≠ t0 := fun z => by rw [z, nt0] at q; cases q
      have z3 : b ≠ th := fun z => by rw [z, nth] at q; cases q
      rw [upd_ne hb, upd_ne hb, upd_ne z3, upd_ne hb, upd_ne z1, upd_ne z2, upd_ne z1, upd_ne hb]
      exact q
    · rw [upd_ne e1, upd_ne e1, upd_ne (Ne.symm e5), upd_ne e1, upd_same] <;> rfl
    · rw [upd_ne e3, upd_ne e3, upd_ne (Ne.symm e6), upd_ne e3, upd_ne e2, upd_same]
    · rw [upd_ne e4, upd_ne e4, upd_same]
end
end Wn
set_option Elab.async false
set_option linter.all false
set_option maxRecDepth 100000
set_option maxHeartbeats 4000000
namespace Wn
open PySem PySem.Spec PyProof.Rows L2 Wl
section
variable {P : Program} {w : World} {K : PySem.W.Frag} {mg : Str → Option Value} {base : Heap}
/-! ### System(), System(processes = .., numbers = ..) -/
theorem kb_Sys0 {fd : FuncData} (F : d_System_init.Fun K fd) : ∃ mv : List Value, KBn K fd ["self", "processes", "numbers"] 1 [] (fun us ws => us ++ mv) (fun vs zs => vs ++ [.int 4, .int 8]) :=
  F.kbinds0 1 [] [("processes", .int 4), ("numbers", .int 8)] (fun us mv ws => us ++ mv) (by simp) (by simp) (fun r1 r2 r3 => r1.append r2) (fun D doc pm an cdv ct us mv ws h1 h2 h3 => match us, mv, ws, h1, h2, h3 with
    | [u], [m1, m2], [], _, _, _ => ⟨_, _, _, _, _, _, rfl, rfl, _, _, _, _, _, _, rfl, rfl, rfl⟩)
theorem kb_Sys2 {fd : FuncData} (F : d_System_init.Fun K fd) : ∃ mv : List Value, KBn K fd ["self", "processes", "numbers"] 1 ["processes", "numbers"] (fun us ws => us ++ ws) (fun vs zs => vs ++ zs) :=
  F.kbinds0 1 ["processes", "numbers"] [] (fun us mv ws => us ++ ws) (by simp) (by simp) (fun r1 r2 r3 => r1.append r3) (fun D doc pm an cdv ct us mv ws h1 h2 h3 => match us, mv, ws, h1, h2, h3 with
    | [u], [], [m1, m2], _, _, _ => rfl)
/-! ### System.twin of a system as it is made -/
def sp_System_twin : Sp := fun vs H Q _ => ∃ x, vs = [.ref x] ∧ Box H x ∧ ∀ y H', L2.Same H H' → Box H' y → Q (.ref y) H'
abbrev N_System_twin : List Str := ["self", "other", "process", "table", "number", "serial"]
theorem sc_System_twin : FnScope N_System_twin ["self"] (defScope s_System_twin) := ⟨rfl, rfl, rfl, by decide +kernel, rfl, by decide +kernel, by decide +kernel⟩
theorem ok_System_twin (T : Txt w K mg) : FnG P w K mg base 5 a_System_twin sp_System_twin := by
  obtain ⟨fd, F⟩ := T.f_System_twin
  obtain ⟨fd2, F2⟩ := T.f_System_init
  obtain ⟨mv, kb⟩ := kb_Sys2 F2
  have nd := sc_System_twin.nd
  refine fnG_of (dvs := []) (ps := ["self"]) F sc_System_twin ⟨[], .nil, F.bindsN fun _ _ _ _ _ _ us hl => match us, hl with | [_], _ => rfl⟩ (fun vs H Q E h => ?_) (fun cdv A outer s H vs Q E hg hr h => ?_)
  · obtain ⟨x, rfl, _⟩ := h
    rfl
  · obtain ⟨x, rfl, ⟨dx, td, t0, th, pl, nl, b⟩, k⟩ := h
    refine ⟨_, pss_cons (ps_set (i := 1) nd rfl (.inl rfl) (pe_mkK0 T.k_System (ok_System_init T F2) hg (hr.mono (by omega)) rfl T.g_System kb pass (pk_cons (pe_fld (pv 0) rfl) (pk_cons (pe_fld (pv 0) rfl) pk_nil))) rfl)
      (pss_cons (ps_fld (pv 1) pe_dnewK rfl)
      (pss_cons (ps_lock (ps_for (passes_of rfl) rfl (pi_keys (pe_fld (pv 0) rfl)) (pg_name (i := 2) nd rfl (.inl rfl))
        (pss_cons (ps_set (i := 3) nd rfl (.inr rfl) (pe_dget (room_u1 hr) (pe_fld (pv 0) rfl) (pv 2) (fun _ _ => rfl)) rfl)
        (pss_one (ps_dput (room_u1 hr) (pe_fld (pv 1) rfl) (pv 2) (pe_lock (pe_dc (own := [("number", 4)]) (g := gName 4) (tt := tYes) rfl nd (pi_keys (pv 3)) (blkOk_by (N := N_System_twin) (sc := defScope s_System_twin) (by decide +kernel)) (fun _ _ _ _ _ => pg_name (i := 4) nd rfl (.inl rfl)) (fun _ _ _ _ _ => pts_nil) (fun _ _ _ _ _ => pv 4) (fun _ _ _ _ _ => pe_no))) rfl)))))
      (pss_cons (ps_fld (pv 1) (pe_lock (pe_dc (own := [("serial", 5)]) (g := gName 5) (tt := tYes) rfl nd (pi_keys (pe_fld (pv 0) rfl)) (blkOk_by (N := N_System_twin) (sc := defScope s_System_twin) (by decide +kernel)) (fun _ _ _ _ _ => pg_name (i := 5) nd rfl (.inl rfl)) (fun _ _ _ _ _ => pts_nil) (fun _ _ _ _ _ => pv 5) (fun _ _ _ _ _ => pe_no))) rfl)
      (pss_cons (ps_fld (pv 1) (pe_fld (pv 0) rfl) rfl)
      (pss_one (ps_ret (pv 1))))))), ?_⟩
    have ne0 : t0 ≠ td := fun z => by
      have q := b.tab0
      rw [z, b.tabs] at q
      cases q
    have neth : th ≠ td := fun z => by
      have q := b.thgs
      rw [z, b.tabs] at q
      cases q
    have nex : x ≠ td := fun z => by
      have q := b.ins
      rw [z, b.tabs] at q
      cases q
    have nexh : x ≠ th := fun z => by
      have q := b.ins
      rw [z, b.thgs] at q
      cases q
    refine ⟨_, rfl, x, _, dx, _, _, rfl, b.ins, T.cl_System, T.n_System_process_limit, rfl, _, rfl, x, _, dx, _, _, rfl, b.ins, T.cl_System, T.n_System_number_limit, rfl, rfl, rfl, fun y dy ny ndy hne => ⟨y, dy, pl, nl, rfl, b.pl0, b.pl1, b.nl0, b.nl1, upd_same, fun H1 keep bx => ⟨rfl, ?_⟩⟩⟩
    obtain ⟨dy2, td2, t02, th2, pl2, nl2, b2⟩ := bx
    have s1 : L2.Same H H1 := fun c o q => keep c o (fun z => by rw [z, ny] at q; cases q) (by rw [upd_ne (fun z => by rw [z, ny] at q; cases q), upd_ne (fun z => by rw [z, ndy] at q; cases q)]; exact q)
    intro p hp
    have py : y ≠ p := fun z => by
      have q := b2.ins
      rw [z, hp] at q
      cases q
    have pth : th2 ≠ p := fun z => by
      have q := b2.thgs
      rw [z, hp] at q
      cases q
    have yth : th2 ≠ y := fun z => by
      have q := b2.thgs
      rw [z, b2.ins] at q
      cases q
    refine ⟨_, rfl, y, c_System, dy2, _, rfl, by rw [upd_ne py]; exact b2.ins, T.cl_System, T.n_System_tables, by walk_at "plen", ?_⟩
    have np : H p = none := by
      cases q : H p with
      | none => rfl
      | some o => rw [s1 p o q] at hp; cases hp
    have s2 : L2.Same H (upd (upd H1 p (.dK [])) y (.ins c_System dy2 (boxF pl2 nl2 p th2))) := same_up (same_up s1 np) ny
    refine ⟨td, _, s2 _ _ b.tabs, trivial, fun od => ?_⟩
    have ypd : y ≠ td := fun z => by rw [z, b.tabs] at ny; cases ny
    have ppd : p ≠ td := fun z => by rw [z, b.tabs] at np; cases np
    have thd : th2 ≠ td := fun z => by
      have q := b2.thgs
      rw [z, s1 _ _ b.tabs] at q
      cases q
    refine ⟨_, rfl, x, _, dx, _, _, rfl, by rw [upd_ne nex]; exact s2 _ _ b.ins, T.cl_System, T.n_System_tables, rfl, td, od, rfl, .inl ⟨_, upd_same, ?_⟩⟩
    refine for_it walk_keys (fun i σ Hh => (∃ v2 v3 v4 v5, σ = [some (.ref x), some (.ref y), v2, v3, v4, v5]) ∧ L2.Same (upd H td (.frz od (.dK [(.inl 0, .ref t0)]))) Hh ∧ Hh y = some (.ins c_System dy2 (boxF pl2 nl2 p th2)) ∧ Hh th2 = some (.dK []) ∧ (i = 0 → Hh p = some (.dK [])) ∧ (i ≠ 0 → ∃ t1, Hh p = some (.dK [(.inl 0, .ref t1)]) ∧ Hh t1 = some (.dK [])))
      ⟨⟨_, _, _, _, rfl⟩, same_upd s2, by rw [upd_ne ypd]; exact upd_same, by rw [upd_ne thd, upd_ne yth, upd_ne pth]; exact b2.thgs, fun _ => by rw [upd_ne ppd, upd_ne (Ne.symm py), upd_same], fun q => absurd rfl q⟩ (fun i σ Hh _ q => q.2.1 _ _ upd_same) (fun i v σ Hh0 Hh hi q yy => ?_) (fun σ Hh q => ?_)
    · obtain ⟨⟨v2, v3, v4, v5, rfl⟩, sm, hy, hth, hp0, _⟩ := q
      obtain ⟨rfl, kk, vv, hk, rfl⟩ := yy
      obtain rfl : i = 0 := Nat.lt_one_iff.mp hi
      obtain ⟨rfl, rfl⟩ := Prod.mk.inj (Option.some.inj hk)
      have hp0 := hp0 rfl
      have htd := sm _ _ upd_same
      have ht0 := sm t0 _ (by rw [upd_ne ne0]; exact b.tab0)
      refine ⟨_, rfl, x, _, dx, _, _, rfl, sm _ _ (by rw [upd_ne nex]; exact b.ins), T.cl_System, T.n_System_tables, rfl, _, rfl, td, _, rfl, .inl ⟨_, .inl 0, .inr ⟨od, htd⟩, rfl, rfl⟩, ?_⟩
      refine ⟨t0, _, ht0, trivial, fun od2 => ?_⟩
      refine ⟨_, rfl, t0, od2, rfl, .inl ⟨[], upd_same, fun D hD => ⟨fun i m Hx => i = 0 ∧ Hx = upd (upd Hh t0 (.frz od2 (.dK []))) D (.dK []), ⟨0, rfl, rfl⟩, ?_⟩⟩⟩
      rintro i m Hx ⟨rfl, rfl⟩
      have eDt : D ≠ t0 := fun z => by rw [z, upd_same] at hD; cases hD
      have nD : Hh D = none := by rw [upd_ne eDt] at hD; exact hD
      have eyt : y ≠ t0 := fun z => by rw [z, ht0] at hy; cases hy
      have eyD : y ≠ D := fun z => by rw [z, nD] at hy; cases hy
      have ept : p ≠ t0 := fun z => by
        have q := b.tab0
        rw [← z, np] at q
        cases q
      have epD : p ≠ D := fun z => by rw [z, nD] at hp0; cases hp0
      have eyp : y ≠ p := py
      have ethp : th2 ≠ p := pth
      have ethD : th2 ≠ D := fun z => by rw [z, nD] at hth; cases hth
      refine .inl ⟨⟨by rw [upd_ne (Ne.symm eDt), upd_same], Nat.le_refl _⟩, by rw [upd_ne (Ne.symm eDt), upd_same], ?_⟩
      refine ⟨_, rfl, y, c_System, dy2, _, _, rfl, by rw [upd_ne eyt, upd_ne eyD, upd_ne eyt]; exact hy, T.cl_System, T.n_System_tables, rfl, _, rfl, p, _, rfl, .inl ⟨[], .inl 0, by rw [upd_ne ept, upd_ne epD, upd_ne ept]; exact hp0, rfl, (by rw [sizeLine_eq]; decide), rfl⟩, ?_⟩
      refine ⟨⟨_, _, _, _, rfl⟩, ?_, ?_, ?_, fun q => absurd q (Nat.succ_ne_zero _), fun _ => ⟨D, by rw [upd_same]; rfl, by rw [upd_ne (Ne.symm epD), upd_ne eDt, upd_same]⟩⟩
      · refine same_up (fun c o q => ?_) (by rw [upd_ne ppd]; exact np)
        by_cases z : c = t0
        · subst z
          rw [upd_same]
          rw [upd_ne ne0, b.tab0] at q
          exact q
        · have q2 := sm c o q
          have z2 : c ≠ D := fun z2 => by rw [z2, nD] at q2; cases q2
          rw [upd_ne z, upd_ne z2, upd_ne z]
          exact q2
      · rw [upd_ne eyp, upd_ne eyt, upd_ne eyD, upd_ne eyt]
        exact hy
      · by_cases z : th2 = t0
        · rw [z, upd_ne (Ne.symm ept), upd_same]
        · rw [upd_ne ethp, upd_ne z, upd_ne ethD, upd_ne z]
          exact hth
    · obtain ⟨⟨v2, v3, v4, v5, rfl⟩, sm, hy, hth, _, hp1⟩ := q
      obtain ⟨t1, hp1, ht1⟩ := hp1 (Nat.succ_ne_zero _)
      refine ⟨sm _ _ upd_same, ?_⟩
      have s3 : L2.Same H (upd Hh td (.dK [(.inl 0, .ref t0)])) := same_unlock sm b.tabs
      generalize hHb : upd Hh td (.dK [(.inl 0, .ref t0)]) = Hb at s3 ⊢
      have hy : Hb y = some (.ins c_System dy2 (boxF pl2 nl2 p th2)) := by rw [← hHb, upd_ne ypd]; exact hy
      have hth : Hb th2 = some (.dK []) := by rw [← hHb, upd_ne thd]; exact hth
      have hp1 : Hb p = some (.dK [(.inl 0, .ref t1)]) := by rw [← hHb, upd_ne ppd]; exact hp1
      have ht1 : Hb t1 = some (.dK []) := by
        rw [← hHb, upd_ne]
        · exact ht1
        · intro z
          rw [z, sm _ _ upd_same] at ht1
          cases ht1
      clear hHb
      refine ⟨th, _, s3 _ _ b.thgs, trivial, fun od3 => ?_⟩
      refine ⟨_, rfl, x, _, dx, _, _, rfl, by rw [upd_ne nexh]; exact s3 _ _ b.ins, T.cl_System, T.n_System_things, rfl, th, od3, rfl, .inl ⟨[], upd_same, fun D hD => ⟨fun i m Hx => i = 0 ∧ Hx = upd (upd Hb th (.frz od3 (.dK []))) D (.dK []), ⟨0, rfl, rfl⟩, ?_⟩⟩⟩
      rintro i m Hx ⟨rfl, rfl⟩
      have eDt : D ≠ th := fun z => by rw [z, upd_same] at hD; cases hD
      have nD : Hb D = none := by rw [upd_ne eDt] at hD; exact hD
      have eyt : y ≠ th := fun z => by rw [z, b.thgs] at ny; cases ny
      have eyD : y ≠ D := fun z => by rw [z, nD] at hy; cases hy
      have epD : p ≠ D := fun z => by rw [z, nD] at hp1; cases hp1
      have ept : p ≠ th := fun z => by rw [z, b.thgs] at np; cases np
      have e1D : t1 ≠ D := fun z => by rw [z, nD] at ht1; cases ht1
      refine .inl ⟨⟨by rw [upd_ne (Ne.symm eDt), upd_same], Nat.le_refl _⟩, by rw [upd_ne (Ne.symm eDt), upd_same], ?_⟩
      have nDH : H D = none := by
        cases q : H D with
        | none => rfl
        | some o => rw [s3 D o q] at nD; cases nD
      have s4 : L2.Same H (upd (upd (upd Hb th (.frz od3 (.dK []))) D (.dK [])) th (.dK [])) := fun c o q => by
        by_cases z : c = th
        · subst z
          rw [upd_same]
          rw [b.thgs] at q
          exact q
        · have z2 : c ≠ D := fun z2 => by rw [z2, nDH] at q; cases q
          rw [upd_ne z, upd_ne z2, upd_ne z]
          exact s3 c o q
      have hy2 : upd (upd (upd Hb th (.frz od3 (.dK []))) D (.dK [])) th (.dK []) y = some (.ins c_System dy2 (boxF pl2 nl2 p th2)) := by rw [upd_ne eyt, upd_ne eyD, upd_ne eyt]; exact hy
      have hp2 : upd (upd (upd Hb th (.frz od3 (.dK []))) D (.dK [])) th (.dK []) p = some (.dK [(.inl 0, .ref t1)]) := by rw [upd_ne ept, upd_ne epD, upd_ne ept]; exact hp1
      have hD2 : upd (upd (upd Hb th (.frz od3 (.dK []))) D (.dK [])) th (.dK []) D = some (.dK []) := by rw [upd_ne eDt, upd_same]
      have h12 : upd (upd (upd Hb th (.frz od3 (.dK []))) D (.dK [])) th (.dK []) t1 = some (.dK []) := by
        by_cases z : t1 = th
        · rw [z, upd_same]
        · rw [upd_ne z, upd_ne e1D, upd_ne z]
          exact ht1
      generalize upd (upd (upd Hb th (.frz od3 (.dK []))) D (.dK [])) th (.dK []) = Hc at s4 hy2 hp2 hD2 h12 ⊢
      refine ⟨_, rfl, y, c_System, dy2, _, rfl, hy2, T.cl_System, T.n_System_things, (by walk_at "plen"), ?_⟩
      have s5 := same_up (o := .ins c_System dy2 (boxF pl2 nl2 p D)) s4 ny
      refine ⟨_, rfl, x, _, dx, _, _, rfl, s5 _ _ b.ins, T.cl_System, T.n_System_serials_made, rfl, _, rfl, y, c_System, dy2, _, rfl, upd_same, T.cl_System, T.n_System_serials_made, (by walk_at "plen"), ?_⟩
      refine ⟨_, rfl, k y _ ?_ ⟨dy2, p, t1, D, pl2, nl2, b2.pl0, b2.pl1, b2.nl0, b2.nl1, upd_same, ?_, ?_, ?_⟩⟩
      · exact same_up s5 ny
      · rw [upd_ne (Ne.symm py), upd_ne (Ne.symm py)]
        exact hp2
      · rw [upd_ne, upd_ne]
        · exact h12
        · intro z
          rw [z, hy2] at h12
          cases h12
        · intro z
          rw [z, hy2] at h12
          cases h12
      · rw [upd_ne (Ne.symm eyD), upd_ne (Ne.symm eyD)]
        exact hD2
end
end Wn
set_option Elab.async false
set_option linter.all false
set_option maxRecDepth 100000
set_option maxHeartbeats 4000000
namespace Wn
open PySem PySem.Spec PyProof.Rows L2 Wl
section
variable {P : Program} {w : World} {K : PySem.W.Frag} {mg : Str → Option Value} {base : Heap}
/-! ### Crew.__init__ -/
def crewF (y W l1 l2 l3 : Addr) : List (Str × V) := [("base", .ref y), ("workers", .ref W), ("places", .ref l1), ("takens", .ref l2), ("mades", .ref l3)]
abbrev N_Crew_init : List Str := ["self", "system", "workers", "worker"]
theorem sc_Crew_init : FnScope N_Crew_init ((["self", "system"] : List Str) ++ (["workers"] : List Str)) (defScope s_Crew_init) := ⟨rfl, rfl, rfl, by decide +kernel, rfl, by decide +kernel, by decide +kernel⟩
def sp_Crew_init (K : PySem.W.Frag) : Sp := fun vs H Q E => ∃ (x b p dx : Addr) (rest : List V) (R : Hp) (ws : List (PyData × List PyData)), vs = [.ref x, .ref b, .ref p] ∧ L2.Same R H ∧ R x = none ∧ R p = none ∧ x ≠ p ∧ Box R b ∧ H p = some (.tup rest) ∧ rest.length ≤ 1000 ∧ DpAll K R rest (ws.map wk) ∧ H x = some (.ins c_Crew dx []) ∧
  match firstBad 0 (ws.map (·.2)) with
  | none => ∀ H' y l1 l2 l3, L2.Same R H' → H' p = some (.tup rest) → H' x = some (.ins c_Crew dx (crewF y p l1 l2 l3)) → H' l1 = some (.lst (List.replicate rest.length (.int 0))) → H' l2 = some (.lst (List.replicate rest.length .non)) → H' l3 = some (.lst (List.replicate rest.length .non)) → Box H' y → Q .non H'
  | some (i, j) => ∀ H' d, L2.Same R H' → H' d = none → E (.ref c_BadStep) (some d) (upd H' d (.xd (errF "BadStep" ["worker", "step"] [.int (i : Nat), .int (j : Nat)])))
theorem box_off {H : Hp} {x y C dx : Addr} {fs : List (Str × V)} {o : HO} (b : Box H y) (hx : H x = some (.ins C dx fs)) (ne : y ≠ x) : Box (upd H x o) y := by
  obtain ⟨d1, td, t0, th, pl, nl, q⟩ := b
  refine ⟨d1, td, t0, th, pl, nl, q.pl0, q.pl1, q.nl0, q.nl1, by rw [upd_ne ne]; exact q.ins, ?_, ?_, ?_⟩
  · rw [upd_ne (fun z => by have q := q.tabs; rw [z, hx] at q; cases q)]
    exact q.tabs
  · rw [upd_ne (fun z => by have q := q.tab0; rw [z, hx] at q; cases q)]
    exact q.tab0
  · rw [upd_ne (fun z => by have q := q.thgs; rw [z, hx] at q; cases q)]
    exact q.thgs
theorem ok_Crew_init (T : Txt w K mg) : FnG P w K mg base 7 a_Crew_init (fun vs H Q E => ∃ ws rest, vs = ws ++ rest ∧ ws.length = 2 ∧ rest.length ≤ sizeLine ∧ ∀ p, H p = none → sp_Crew_init K (ws ++ [V.ref p]) (upd H p (.tup rest)) Q E) := by
  obtain ⟨fd, F⟩ := T.f_Crew_init
  obtain ⟨fd2, F2⟩ := T.f_look_workers
  have nd := sc_Crew_init.nd
  refine fnG_star (ps := ["self", "system"]) (pv := "workers") F sc_Crew_init rfl (fun kV doc pm an cdv ct => StX.bind_star2 (B := fun l => bindArgs (PySem.W.fnOf d_Crew_init.name d_Crew_init.qual d_Crew_init.params d_Crew_init.body d_Crew_init.scope .none kV doc pm an cdv ct) ⟨l, []⟩) (p1 := "self") (p2 := "system") (pv := "workers") (fun a b => rfl) (fun a b r rs => rfl)) (fun cdv A outer s H vs Q E hg hr h => ?_)
  obtain ⟨x, b, p, dx, rest, R, ws, rfl, sR, rx, rp, nxp, bx, hp, hz, hd, hx, k⟩ := h
  refine ⟨_, pss_cons (ps_expr (pe_gf ((ok_look_workers T).callR hg (hr.mono (by omega)) pass) rfl T.g_look_workers F2.kp (pa_cons (pv 2) pa_nil)))
    (pss_cons (ps_fld (pv 0) (pe_mt0 (pv 1) T.cl_System T.m_System_twin ((ok_System_twin T).callR hg (hr.mono (by omega)) pass)) rfl)
    (pss_cons (ps_fld (pv 0) (pv 2) rfl)
    (pss_cons (ps_fld (pv 0) (pe_lc (own := [("worker", 3)]) (g := gName 3) (tt := tYes) rfl nd (pi_tup (pv 2)) (blkOk_by (N := N_Crew_init) (sc := defScope s_Crew_init) (by decide +kernel)) (fun _ _ _ _ _ => pg_name (i := 3) nd rfl (.inl rfl)) (fun _ _ _ _ _ => pts_nil) (fun _ _ _ _ _ => pe_int)) rfl)
    (pss_cons (ps_fld (pv 0) (pe_lc (own := [("worker", 3)]) (g := gName 3) (tt := tYes) rfl nd (pi_tup (pv 2)) (blkOk_by (N := N_Crew_init) (sc := defScope s_Crew_init) (by decide +kernel)) (fun _ _ _ _ _ => pg_name (i := 3) nd rfl (.inl rfl)) (fun _ _ _ _ _ => pts_nil) (fun _ _ _ _ _ => pe_non)) rfl)
    (pss_one (ps_fld (pv 0) (pe_lc (own := [("worker", 3)]) (g := gName 3) (tt := tYes) rfl nd (pi_tup (pv 2)) (blkOk_by (N := N_Crew_init) (sc := defScope s_Crew_init) (by decide +kernel)) (fun _ _ _ _ _ => pg_name (i := 3) nd rfl (.inl rfl)) (fun _ _ _ _ _ => pts_nil) (fun _ _ _ _ _ => pe_non)) rfl)))))), ?_⟩
  have hlw : rest.length = ws.length := by rw [dpAll_length hd, List.length_map]
  refine ⟨_, rfl, _, ws, rfl, .tup (SqT.of hp) (dpAll_same sR hd), ?_⟩
  cases eF : firstBad 0 (ws.map (·.2)) with
  | some ij =>
    obtain ⟨i, j⟩ := ij
    rw [eF] at k
    exact fun H' d s1 hd' => k H' d (sR.trans s1) hd'
  | none =>
    rw [eF] at k
    intro H1 s1
    have sR1 := sR.trans s1
    refine ⟨_, rfl, b, (let ⟨d0, td, t0, th, pl, nl, q⟩ := bx.same sR1; ⟨_, _, rfl, q.ins, rfl, b, rfl, bx.same sR1, fun y H2 s2 by_ => ?_⟩)⟩
    have sR2 := sR1.trans s2
    have hx2 := s2 _ _ (s1 _ _ hx)
    have hp2 := s2 _ _ (s1 _ _ hp)
    clear s1 s2 sR1 hx hp eF
    refine ⟨_, rfl, x, c_Crew, dx, _, rfl, hx2, T.cl_Crew, T.n_Crew_base, by walk_at "plen", ?_⟩
    refine ⟨_, rfl, _, rfl, x, c_Crew, dx, _, rfl, upd_same, T.cl_Crew, T.n_Crew_workers, by walk_at "plen", ?_⟩
    rw [upd_upd]
    -- the heap behind the first two fields
    have nyx : y ≠ x := fun z => by
      obtain ⟨_, _, _, _, _, _, q⟩ := by_
      have q := q.ins
      rw [z, hx2] at q
      cases q
    have b3 : Box (upd H2 x (.ins c_Crew dx (putF "workers" (.ref p) (putF "base" (.ref y) [])))) y := by
      obtain ⟨d1, td, t0, th, pl, nl, q⟩ := by_
      refine ⟨d1, td, t0, th, pl, nl, q.pl0, q.pl1, q.nl0, q.nl1, by rw [upd_ne nyx]; exact q.ins, ?_, ?_, ?_⟩
      · rw [upd_ne (fun z => by have q := q.tabs; rw [z, hx2] at q; cases q)]
        exact q.tabs
      · rw [upd_ne (fun z => by have q := q.tab0; rw [z, hx2] at q; cases q)]
        exact q.tab0
      · rw [upd_ne (fun z => by have q := q.thgs; rw [z, hx2] at q; cases q)]
        exact q.thgs
    have sR3 := same_up (o := .ins c_Crew dx (putF "workers" (.ref p) (putF "base" (.ref y) []))) sR2 rx
    have hp3 : upd H2 x (.ins c_Crew dx (putF "workers" (.ref p) (putF "base" (.ref y) []))) p = some (.tup rest) := by rw [upd_ne (Ne.symm nxp)]; exact hp2
    have hx3 : upd H2 x (.ins c_Crew dx (putF "workers" (.ref p) (putF "base" (.ref y) []))) x = some (.ins c_Crew dx [("base", .ref y), ("workers", .ref p)]) := upd_same
    generalize upd H2 x (.ins c_Crew dx (putF "workers" (.ref p) (putF "base" (.ref y) []))) = H3 at b3 sR3 hp3 hx3 ⊢
    clear hx2 hp2 sR2 by_
    refine ⟨_, rfl, p, rfl, ⟨rest, SqT.of hp3⟩, fun l1 n1 => lc_const (xs := rest) walk_tup (by omega) (fun o => SqT.of (by rw [upd_ne (fun z => by rw [z, n1] at hp3; cases hp3)]; exact hp3)) ?_⟩
    have s4 : L2.Same H3 (upd H3 l1 (.lst (List.replicate rest.length (.int 0)))) := same_new (L2.Same.refl _) n1
    have h1 : upd H3 l1 (.lst (List.replicate rest.length (.int 0))) l1 = some (.lst (List.replicate rest.length (.int 0))) := upd_same
    have e1 : l1 ≠ x := fun z => by rw [z, hx3] at n1; cases n1
    generalize upd H3 l1 (.lst (List.replicate rest.length (.int 0))) = H4 at s4 h1 ⊢
    refine ⟨_, rfl, x, c_Crew, dx, _, rfl, s4 _ _ hx3, T.cl_Crew, T.n_Crew_places, by walk_at "plen", ?_⟩
    have sR4 := same_up (o := (.ins c_Crew dx (putF "places" (.ref l1) [("base", .ref y), ("workers", .ref p)]))) (sR3.trans s4) rx
    have hp4 : upd H4 x (.ins c_Crew dx (putF "places" (.ref l1) [("base", .ref y), ("workers", .ref p)])) p = some (.tup rest) := by rw [upd_ne (Ne.symm nxp)]; exact s4 _ _ hp3
    have hx4 : upd H4 x (.ins c_Crew dx (putF "places" (.ref l1) [("base", .ref y), ("workers", .ref p)])) x = some (.ins c_Crew dx [("base", .ref y), ("workers", .ref p), ("places", .ref l1)]) := upd_same
    have b4 : Box (upd H4 x (.ins c_Crew dx (putF "places" (.ref l1) [("base", .ref y), ("workers", .ref p)]))) y := box_off (b3.same s4) (s4 _ _ hx3) nyx
    have h1 : upd H4 x (.ins c_Crew dx (putF "places" (.ref l1) [("base", .ref y), ("workers", .ref p)])) l1 = some (.lst (List.replicate rest.length (.int 0))) := by rw [upd_ne e1]; exact h1
    generalize upd H4 x (.ins c_Crew dx (putF "places" (.ref l1) [("base", .ref y), ("workers", .ref p)])) = H5 at sR4 hp4 hx4 b4 h1 ⊢
    clear s4 sR3 hp3 hx3 b3
    refine ⟨_, rfl, p, rfl, ⟨rest, SqT.of hp4⟩, fun l2 n2 => lc_const (xs := rest) walk_tup (by omega) (fun o => SqT.of (by rw [upd_ne (fun z => by rw [z, n2] at hp4; cases hp4)]; exact hp4)) ?_⟩
    have s5 : L2.Same H5 (upd H5 l2 (.lst (List.replicate rest.length .non))) := same_new (L2.Same.refl _) n2
    have h2 : upd H5 l2 (.lst (List.replicate rest.length .non)) l2 = some (.lst (List.replicate rest.length .non)) := upd_same
    have e2 : l2 ≠ x := fun z => by rw [z, hx4] at n2; cases n2
    generalize upd H5 l2 (.lst (List.replicate rest.length .non)) = H6 at s5 h2 ⊢
    refine ⟨_, rfl, x, c_Crew, dx, _, rfl, s5 _ _ hx4, T.cl_Crew, T.n_Crew_takens, by walk_at "plen", ?_⟩
    have sR5 := same_up (o := (.ins c_Crew dx (putF "takens" (.ref l2) [("base", .ref y), ("workers", .ref p), ("places", .ref l1)]))) (sR4.trans s5) rx
    have hp5 : upd H6 x (.ins c_Crew dx (putF "takens" (.ref l2) [("base", .ref y), ("workers", .ref p), ("places", .ref l1)])) p = some (.tup rest) := by rw [upd_ne (Ne.symm nxp)]; exact s5 _ _ hp4
    have hx5 : upd H6 x (.ins c_Crew dx (putF "takens" (.ref l2) [("base", .ref y), ("workers", .ref p), ("places", .ref l1)])) x = some (.ins c_Crew dx [("base", .ref y), ("workers", .ref p), ("places", .ref l1), ("takens", .ref l2)]) := upd_same
    have b5 : Box (upd H6 x (.ins c_Crew dx (putF "takens" (.ref l2) [("base", .ref y), ("workers", .ref p), ("places", .ref l1)]))) y := box_off (b4.same s5) (s5 _ _ hx4) nyx
    have h1 : upd H6 x (.ins c_Crew dx (putF "takens" (.ref l2) [("base", .ref y), ("workers", .ref p), ("places", .ref l1)])) l1 = some (.lst (List.replicate rest.length (.int 0))) := by rw [upd_ne e1]; exact s5 _ _ h1
    have h2 : upd H6 x (.ins c_Crew dx (putF "takens" (.ref l2) [("base", .ref y), ("workers", .ref p), ("places", .ref l1)])) l2 = some (.lst (List.replicate rest.length .non)) := by rw [upd_ne e2]; exact h2
    generalize upd H6 x (.ins c_Crew dx (putF "takens" (.ref l2) [("base", .ref y), ("workers", .ref p), ("places", .ref l1)])) = H7 at sR5 hp5 hx5 b5 h1 h2 ⊢
    clear s5 sR4 hp4 hx4 b4
    refine ⟨_, rfl, p, rfl, ⟨rest, SqT.of hp5⟩, fun l3 n3 => lc_const (xs := rest) walk_tup (by omega) (fun o => SqT.of (by rw [upd_ne (fun z => by rw [z, n3] at hp5; cases hp5)]; exact hp5)) ?_⟩
    have s6 : L2.Same H7 (upd H7 l3 (.lst (List.replicate rest.length .non))) := same_new (L2.Same.refl _) n3
    have h3 : upd H7 l3 (.lst (List.replicate rest.length .non)) l3 = some (.lst (List.replicate rest.length .non)) := upd_same
    have e3 : l3 ≠ x := fun z => by rw [z, hx5] at n3; cases n3
    generalize upd H7 l3 (.lst (List.replicate rest.length .non)) = H8 at s6 h3 ⊢
    refine ⟨_, rfl, x, c_Crew, dx, _, rfl, s6 _ _ hx5, T.cl_Crew, T.n_Crew_mades, by walk_at "plen", ?_⟩
    have sR6 := same_up (o := (.ins c_Crew dx (putF "mades" (.ref l3) [("base", .ref y), ("workers", .ref p), ("places", .ref l1), ("takens", .ref l2)]))) (sR5.trans s6) rx
    have hp6 : upd H8 x (.ins c_Crew dx (putF "mades" (.ref l3) [("base", .ref y), ("workers", .ref p), ("places", .ref l1), ("takens", .ref l2)])) p = some (.tup rest) := by rw [upd_ne (Ne.symm nxp)]; exact s6 _ _ hp5
    have hx6 : upd H8 x (.ins c_Crew dx (putF "mades" (.ref l3) [("base", .ref y), ("workers", .ref p), ("places", .ref l1), ("takens", .ref l2)])) x = some (.ins c_Crew dx [("base", .ref y), ("workers", .ref p), ("places", .ref l1), ("takens", .ref l2), ("mades", .ref l3)]) := upd_same
    have b6 : Box (upd H8 x (.ins c_Crew dx (putF "mades" (.ref l3) [("base", .ref y), ("workers", .ref p), ("places", .ref l1), ("takens", .ref l2)]))) y := box_off (b5.same s6) (s6 _ _ hx5) nyx
    refine k _ y l1 l2 l3 sR6 hp6 hx6 ?_ ?_ ?_ b6
    · rw [upd_ne e1]
      exact s6 _ _ h1
    · rw [upd_ne e2]
      exact s6 _ _ h2
    · rw [upd_ne e3]
      exact h3
end
end Wn
set_option Elab.async false
set_option linter.all false
set_option maxRecDepth 100000
set_option maxHeartbeats 4000000
namespace Wn
open PySem PySem.Spec PyProof.Rows L2 Wl
section
variable {P : Program} {w : World} {K : PySem.W.Frag} {mg : Str → Option Value} {base : Heap}
/-! ### len(crew) -/
theorem cut_len (xs : List V) (p : Nat) : (cutV xs (some (p : Int)) none).length = xs.length - p := by
  show ((xs.drop (HT.sIx xs.length 0 (some (p : Int)))).take (HT.sIx xs.length xs.length none - HT.sIx xs.length 0 (some (p : Int)))).length = xs.length - p
  rw [HT.sIx_nat, HT.sIx_none, List.length_take, List.length_drop]
  omega
def leftOf : List (List PyData) → List Nat → Nat
  | st :: r, p :: ps => (st.length - p) + leftOf r ps
  | _, _ => 0
abbrev N_Crew_len : List Str := ["self", "left", "process", "steps", "place"]
theorem sc_Crew_len : FnScope N_Crew_len ["self"] (defScope s_Crew_len) := ⟨rfl, rfl, rfl, by decide +kernel, rfl, by decide +kernel, by decide +kernel⟩
def sp_Crew_len (K : PySem.W.Frag) : Sp := fun vs H Q _ => ∃ (x dx W l1 : Addr) (fs : List (Str × V)) (ws : List (PyData × List PyData)) (ps : List Nat), vs = [.ref x] ∧ H x = some (.ins c_Crew dx fs) ∧ fs.lookup ("workers" : Str) = some (V.ref W) ∧ fs.lookup ("places" : Str) = some (V.ref l1) ∧
  Dp K H (.ref W) (.tuple (ws.map wk)) ∧ H l1 = some (.lst (ps.map fun p => .int (p : Nat))) ∧ ps.length = ws.length ∧ (∀ p ∈ ps, p ≤ 1000000) ∧ leftOf (ws.map (·.2)) ps ≤ 100000 ∧ ∀ H', L2.Same H H' → Q (.int (leftOf (ws.map (·.2)) ps : Nat)) H'
theorem ok_Crew_len (T : Txt w K mg) : FnG P w K mg base 1 a_Crew_len (sp_Crew_len K) := by
  obtain ⟨fd, F⟩ := T.f_Crew_len
  have nd := sc_Crew_len.nd
  refine fnG_of (dvs := []) (ps := ["self"]) F sc_Crew_len ⟨[], .nil, F.bindsN fun _ _ _ _ _ _ us hl => match us, hl with | [_], _ => rfl⟩ (fun vs H Q E h => ?_) (fun cdv A outer s H vs Q E hg hr h => ?_)
  · obtain ⟨x, dx, W, l1, fs, ws, ps, rfl, _⟩ := h
    rfl
  · obtain ⟨x, dx, W, l1, fs, ws, ps, rfl, hx, fw, fp, hd, hl, hlen, hp, hz, k⟩ := h
    obtain ⟨W2, wvs, eW, hs, ha⟩ := dp_tup hd
    obtain rfl : W = W2 := V.ref.inj eW
    refine ⟨_, pss_cons (ps_set (i := 1) nd rfl (.inl rfl) (pe_lst pa_nil) rfl) (pss_cons (ps_for (passes_of rfl) rfl (pi_zipT rfl T.z_zip (pa_cons (pe_fld (pv 0) rfl) (pa_cons (pe_fld (pv 0) rfl) pa_nil)))
      (pg_tup rfl (pgs_cons (pg_tup rfl (pgs_cons (pg_name (i := 2) nd rfl (.inl rfl)) (pgs_cons (pg_name (i := 3) nd rfl (.inl rfl)) pgs_nil))) (pgs_cons (pg_name (i := 4) nd rfl (.inl rfl)) pgs_nil)))
      (pss_one (ps_expr (pe_bm PySem.F.plainAttrs_list PySem.F.slot_list_extend PySem.F.type_list_extend mt_extT (pv 1) (pa_cons (pe_slice sl_tupA (pv 3) (po_some (pv 4)) po_none) pa_nil)))))
      (pss_one (ps_ret (pe_callB call_len_seq rfl T.z_len bt_len (pa_cons (pv 1) pa_nil))))), ?_⟩
    refine ⟨Nat.zero_le _, fun L nL => ?_⟩
    have sL : L2.Same H (upd H L (.lst [])) := same_new (L2.Same.refl _) nL
    refine ⟨_, rfl, x, c_Crew, dx, fs, _, rfl, sL _ _ hx, T.cl_Crew, T.n_Crew_workers, fw, _, rfl, x, c_Crew, dx, fs, _, rfl, sL _ _ hx, T.cl_Crew, T.n_Crew_places, fp, _, l1, wvs, ps.map fun p => .int (p : Nat), rfl, sqt_same sL hs, SqL.of (sL _ _ hl), ?_⟩
    have hlw : wvs.length = ws.length := by rw [dpAll_length ha, List.length_map]
    have hlp : wvs.length = (ps.map fun p => V.int (p : Nat)).length := by rw [List.length_map, hlw, hlen]
    refine for_it (walk_zipT (xs := wvs) hlp) (fun i σ Hh => (∃ v2 v3 v4, σ = [some (.ref x), some (.ref L), v2, v3, v4]) ∧ L2.Same H Hh ∧ ∃ acc, Hh L = some (.lst acc) ∧ acc.length + leftOf ((ws.drop i).map (·.2)) (ps.drop i) = leftOf (ws.map (·.2)) ps)
      ⟨⟨_, _, _, rfl⟩, sL, [], upd_same, by simp⟩ (fun i σ Hh _ q => ⟨sqt_same q.2.1 hs, SqL.of (q.2.1 _ _ hl)⟩) (fun i v σ Hh H2 hi q yy => ?_) (fun σ Hh q => ?_)
    · obtain ⟨⟨v2, v3, v4, rfl⟩, sm, acc, hL, hsum⟩ := q
      obtain ⟨Ta, y1, y2, rfl, nT, rfl, ey1, ey2⟩ := yy
      have s2 : L2.Same H (upd Hh Ta (.tup [y1, y2])) := same_new sm nT
      obtain ⟨d, hdi, hy⟩ := dpAll_get ha ey1
      rw [List.getElem?_map] at hdi
      obtain ⟨q, hq, rfl⟩ := Option.map_eq_some_iff.mp hdi
      obtain ⟨pa, pxs, rfl, hps, hpa⟩ := dp_tup hy
      cases hpa with
      | @cons pv0 r0 _ _ hp0 ht0 =>
      cases ht0 with
      | @cons sv0 r1 _ _ hs0 ht1 =>
      cases ht1
      obtain ⟨sa, svs, rfl, hss, hsa⟩ := dp_tup hs0
      have ey2 : (ps.map fun p => V.int (p : Nat))[i]? = some y2 := ey2
      rw [List.getElem?_map] at ey2
      obtain ⟨pl, hpl, rfl⟩ := Option.map_eq_some_iff.mp ey2
      have hLT : L ≠ Ta := fun z => by rw [z, nT] at hL; cases hL
      have hlt : i < ws.length := by rw [← hlw]; exact hi
      have hlt2 : i < ps.length := by omega
      obtain ⟨hw1, hw2⟩ := List.getElem?_eq_some_iff.mp hq
      obtain ⟨hp1, hp2⟩ := List.getElem?_eq_some_iff.mp hpl
      rw [List.drop_eq_getElem_cons hlt, List.drop_eq_getElem_cons hlt2, hw2, hp2] at hsum
      have hsum : acc.length + ((q.2.length - pl) + leftOf ((ws.drop (i + 1)).map (·.2)) (ps.drop (i + 1))) = leftOf (ws.map (·.2)) ps := hsum
      have lsv : svs.length = q.2.length := dpAll_length hsa
      refine ⟨Ta, _, rfl, SqT.of upd_same, rfl, _, _, rfl, ⟨pa, _, rfl, sqt_same s2 hps, rfl, _, _, rfl, _, _, rfl, rfl, _, _, rfl, rfl, ?_⟩⟩
      refine ⟨_, rfl, .inl ⟨rfl, acc, SqL.of (by rw [upd_ne hLT]; exact hL)⟩, _, rfl, _, rfl, _, rfl, ?_⟩
      have cl := cut_len svs pl
      refine ⟨sa, svs, rfl, sqt_same s2 hss, fun hfull => ?_, fun hnot p np => ?_⟩
      · have hpl0 : svs.length - pl = svs.length := by
          have e1 : (cutV svs (some (pl : Int)) none).length = svs.length := by
            show ((svs.drop (HT.sIx svs.length 0 (some (pl : Int)))).take (HT.sIx svs.length svs.length none - HT.sIx svs.length 0 (some (pl : Int)))).length = svs.length
            rw [hfull.1, hfull.2]
            simp
          omega
        refine ⟨L, sa, acc, svs, rfl, rfl, by rw [upd_ne hLT]; exact hL, sqt_same s2 hss, by rw [sizeLine_eq]; omega, ⟨_, _, _, rfl⟩, same_up s2 nL, _, upd_same, ?_⟩
        rw [List.length_append]
        omega
      · have hLp : L ≠ p := fun z => by
          rw [← z, upd_ne hLT, hL] at np
          cases np
        refine ⟨L, p, acc, _, rfl, rfl, by rw [upd_ne hLp, upd_ne hLT]; exact hL, SqT.of upd_same, by rw [cl, sizeLine_eq]; omega, ⟨_, _, _, rfl⟩, same_up (same_new s2 np) nL, _, upd_same, ?_⟩
        rw [List.length_append, cl]
        omega
    · obtain ⟨⟨v2, v3, v4, rfl⟩, sm, acc, hL, hsum⟩ := q
      rw [hlw, List.drop_length] at hsum
      refine ⟨_, rfl, L, acc, rfl, .inl (SqL.of hL), ?_⟩
      have e : acc.length = leftOf (ws.map (·.2)) ps := by
        rw [← hsum]
        rfl
      rw [e]
      exact k _ sm
end
end Wn
set_option Elab.async false
set_option linter.all false
set_option maxRecDepth 100000
set_option maxHeartbeats 4000000
namespace Wn
open PySem PySem.Spec PyProof.Rows L2 Wl
section
variable {P : Program} {w : World} {K : PySem.W.Frag} {mg : Str → Option Value} {base : Heap}
/-! ### the bag of the script's numbers -/
def BagAt (H : Hp) (b : Addr) : Prop := ∃ x y : Int, H b = some (.lst [.int x, .int y])
abbrev N_bag : List Str := ["_law_script", "_law_at", "_law_number", "_law_mixed", "_law_spot", "_law_each"]
theorem sc_bag : FnScope N_bag ["_law_script", "_law_at"] (defScope s__law_bag) := ⟨rfl, rfl, rfl, by decide +kernel, rfl, by decide +kernel, by decide +kernel⟩
def sp_bag (K : PySem.W.Frag) : Sp := fun vs H Q _ => ∃ (S : Addr) (ns : List Int) (at_ : Nat), vs = [.ref S, .int (at_ : Nat)] ∧ SqL K H S (ns.map V.int) ∧ ∀ b H', L2.Same H H' → H b = none → BagAt H' b → Q (.ref b) H'
theorem ok_bag (T : Txt w K mg) : FnG P w K mg base 1 a__law_bag (sp_bag K) := by
  obtain ⟨fd, F⟩ := T.f__law_bag
  have nd := sc_bag.nd
  refine fnG_of (dvs := []) (ps := ["_law_script", "_law_at"]) F sc_bag ⟨[], .nil, F.bindsN fun _ _ _ _ _ _ us hl => match us, hl with | [_, _], _ => rfl⟩ (fun vs H Q E h => ?_) (fun cdv A outer s H vs Q E hg hr h => ?_)
  · obtain ⟨S, ns, at_, rfl, _⟩ := h
    rfl
  · obtain ⟨S, ns, at_, rfl, hs, k⟩ := h
    have hc : (cxOf (L2.CX P w) P w K mg base N_bag d__law_bag.qual d__law_bag.scope d__law_bag.a cdv A outer s H E).calm = true := rfl
    refine ⟨_, pss_cons (ps_set (i := 2) nd rfl (.inl rfl) (pe_ifExp (pt_cmpR op_lt (pv 1) (pe_callB call_len_seq rfl T.z_len bt_len (pa_cons (pv 0) pa_nil)) (nomark _)) (pe_ix ix_list (pv 0) (pv 1) (fun _ _ => rfl)) pe_int) rfl)
      (pss_cons (ps_set (i := 3) nd rfl (.inl rfl) (pe_op op_add (pe_op op_mul pe_int (pv 1)) pe_int) rfl)
      (pss_cons (ps_for (passes_of rfl) rfl (pi_enum rfl T.z_enumerate (pa_cons (pe_slice sl_list (pv 0) po_none (po_some pe_int)) pa_nil)) (pg_tup rfl (pgs_cons (pg_name (i := 4) nd rfl (.inl rfl)) (pgs_cons (pg_name (i := 5) nd rfl (.inl rfl)) pgs_nil)))
        (pss_one (ps_set (i := 3) nd rfl (.inl rfl) (pe_op op_mod (pe_callTy call_int1 rfl T.z_int bt_int (pa_cons (pe_op op_add (pe_op op_add (pe_op op_add (pe_op op_mul (pv 3) pe_int) (pe_op op_mod (pe_callTy call_int1 rfl T.z_int bt_int (pa_cons (pv 5) pa_nil)) pe_int)) (pe_op op_mul pe_int (pv 4))) pe_int) pa_nil)) pe_int) rfl)))
      (pss_one (ps_ret (pe_lst (pa_cons (pe_ifExp (pt_cmpR op_ge (pe_callB call_abs rfl T.z_abs bt_abs (pa_cons (pv 2) pa_nil)) (pe_op op_pow pe_int pe_int) (nomark _)) (pe_callB call_abs rfl T.z_abs bt_abs (pa_cons (pv 2) pa_nil)) pe_int) (pa_cons (pv 3) pa_nil))))))), ?_⟩
    have hlen : (ns.map V.int).length = ns.length := List.length_map _
    -- the number there, or 0
    refine ⟨_, rfl, _, rfl, S, _, rfl, .inl hs, _, _, rfl, rfl, _, rfl, ?_⟩
    have pick : ∃ num : Int, ∀ Q2 : VK, Q2 (.int num) H → (if decide ((at_ : Int) < ((ns.map V.int).length : Int)) = true then tOp (rIxL K) (tVar 0) (tVar 1) (start N_bag ([V.ref S, V.int (at_ : Nat)] ++ [])) H Q2 else tC (.int 0) (start N_bag ([V.ref S, V.int (at_ : Nat)] ++ [])) H Q2) := by
      by_cases hlt : at_ < ns.length
      · refine ⟨ns[at_], fun Q2 q => ?_⟩
        rw [decide_eq_true (show (at_ : Int) < ((ns.map V.int).length : Int) by rw [hlen]; omega)]
        exact iteT ⟨_, rfl, _, rfl, S, _, (at_ : Int), _, rfl, rfl, hs, atI_nat (by rw [List.getElem?_map, List.getElem?_eq_getElem hlt] <;> rfl), q⟩
      · refine ⟨0, fun Q2 q => ?_⟩
        rw [decide_eq_false (show ¬ (at_ : Int) < ((ns.map V.int).length : Int) by rw [hlen]; omega)]
        exact iteF q
    obtain ⟨num, hnum⟩ := pick
    refine hnum _ ?_
    refine ⟨_, rfl, 866, _, rfl, rfl, .inl ⟨by omega, by omega⟩, _, 131, rfl, rfl, ?_⟩
    refine ⟨_, rfl, 60, rfl, S, _, rfl, hs, fun p np => ?_⟩
    refine ⟨p, _, rfl, SqL.of upd_same, ?_⟩
    have items : ∀ v ∈ cutV (ns.map V.int) none (some 60), ∃ z : Int, v = .int z := fun v hv => by
      have h1 : v ∈ ns.map V.int := List.mem_of_mem_drop (List.mem_of_mem_take hv)
      obtain ⟨z, _, e⟩ := List.mem_map.mp h1
      exact ⟨z, e.symm⟩
    generalize cutV (ns.map V.int) none (some 60) = ys at items ⊢
    have s1 : L2.Same H (upd H p (.lst ys)) := same_new (L2.Same.refl _) np
    refine for_it walk_enum (fun i σ Hh => (∃ (mx : Int) (v4 v5 : Option V), σ = [some (.ref S), some (.int (at_ : Nat)), some (.int num), some (.int mx), v4, v5]) ∧ L2.Same (upd H p (.lst ys)) Hh) ⟨⟨_, _, _, rfl⟩, L2.Same.refl _⟩ (fun i σ Hh _ q => SqL.of (q.2 _ _ upd_same)) (fun i v σ Hh H2 hi q yy => ?_) (fun σ Hh q => ?_)
    · obtain ⟨⟨mx, v4, v5, rfl⟩, sm⟩ := q
      obtain ⟨Ta, y1, y2, rfl, nT, rfl, ey1, ey2⟩ := yy
      obtain rfl := Option.some.inj ey1
      obtain ⟨z, rfl⟩ := items y2 (List.mem_of_getElem? ey2)
      refine ⟨Ta, _, rfl, SqT.of upd_same, rfl, _, _, rfl, _, _, rfl, rfl, ?_⟩
      refine ⟨_, rfl, mx, 55399, rfl, rfl, .inr ⟨by omega, by omega⟩, _, rfl, .inl ⟨z, rfl, _, _, rfl, rfl, (by decide : (0 : Int) < 2147483629), _, _, rfl, rfl, _, rfl, 111, _, rfl, rfl, .inl ⟨by omega, by omega⟩, _, _, rfl, rfl, _, 11, rfl, rfl, .inl ⟨_, rfl, _, _, rfl, rfl, (by decide : (0 : Int) < 2147483579), ?_⟩⟩⟩
      exact ⟨⟨_, _, _, rfl⟩, same_new sm nT⟩
    · obtain ⟨⟨mx, v4, v5, rfl⟩, sm⟩ := q
      have s2 : L2.Same H Hh := s1.trans sm
      have absPick : ∃ num2 : Int, ∀ Q2 : VK, Q2 (.int num2) Hh → (if decide ((10 : Int) ^ (18 : Int).toNat ≤ (if num < 0 then -num else num)) = true then tCB (fun xs H Q => ∃ i, xs = [.int i] ∧ Q (.int (if i < 0 then -i else i)) H) (tCons (tVar 2) tNil) [some (.ref S), some (.int (at_ : Nat)), some (.int num), some (.int mx), v4, v5] Hh Q2 else tC (.int 0) [some (.ref S), some (.int (at_ : Nat)), some (.int num), some (.int mx), v4, v5] Hh Q2) := by
        cases decide ((10 : Int) ^ (18 : Int).toNat ≤ (if num < 0 then -num else num)) with
        | true => exact ⟨_, fun Q2 q => iteT ⟨_, rfl, num, rfl, q⟩⟩
        | false => exact ⟨0, fun Q2 q => iteF q⟩
      obtain ⟨num2, h2⟩ := absPick
      refine ⟨_, rfl, num, rfl, 10, 18, rfl, rfl, ⟨by decide, by decide, by decide⟩, _, _, rfl, rfl, _, rfl, h2 _ ?_⟩
      refine ⟨_, rfl, (by rw [sizeLine_eq]; simp), fun b nb => ?_⟩
      exact k b _ (same_new s2 nb) (by
        cases q : H b with
        | none => rfl
        | some o => rw [s2 b o q] at nb; cases nb) ⟨num2, mx, upd_same⟩
abbrev N_take : List Str := ["_law_bag_here", "_law_many", "_law_digit"]
theorem sc_take : FnScope N_take ["_law_bag_here", "_law_many"] (defScope s__law_take) := ⟨rfl, rfl, rfl, by decide +kernel, rfl, by decide +kernel, by decide +kernel⟩
def sp_take : Sp := fun vs H Q _ => ∃ (b : Addr) (m : Nat), vs = [.ref b, .int (m : Nat)] ∧ BagAt H b ∧ 0 < m ∧ m < 1000000 ∧ ∀ (k : Nat) (x y : Int), k < m → Q (.int (k : Nat)) (upd H b (.lst [.int x, .int y]))
theorem ok_take (T : Txt w K mg) : FnG P w K mg base 1 a__law_take sp_take := by
  obtain ⟨fd, F⟩ := T.f__law_take
  have nd := sc_take.nd
  refine fnG_of (dvs := []) (ps := ["_law_bag_here", "_law_many"]) F sc_take ⟨[], .nil, F.bindsN fun _ _ _ _ _ _ us hl => match us, hl with | [_, _], _ => rfl⟩ (fun vs H Q E h => ?_) (fun cdv A outer s H vs Q E hg hr h => ?_)
  · obtain ⟨b, m, rfl, _⟩ := h
    rfl
  · obtain ⟨b, m, rfl, ⟨x, y, hb⟩, m0, m1, k⟩ := h
    refine ⟨_, pss_cons (ps_if (pt_cmpR op_gt (pe_ix ix_list (pv 0) pe_int (fun _ _ => rfl)) pe_int (nomark _))
        (pss_cons (ps_set (i := 2) nd rfl (.inl rfl) (pe_op op_mod (pe_callTy call_int1 rfl T.z_int bt_int (pa_cons (pe_ix ix_list (pv 0) pe_int (fun _ _ => rfl)) pa_nil)) (pv 1)) rfl)
        (pss_cons (ps_asg (pe_op op_fdiv (pe_ix ix_list (pv 0) pe_int (fun _ _ => rfl)) (pv 1)) (pg_sub (pv 0) pe_int set_list))
        (pss_one (ps_ret (pv 2))))) pss_nil)
      (pss_cons (ps_asg (pe_op op_mod (pe_callTy call_int1 rfl T.z_int bt_int (pa_cons (pe_op op_add (pe_op op_mul (pe_ix ix_list (pv 0) pe_int (fun _ _ => rfl)) pe_int) pe_int) pa_nil)) pe_int) (pg_sub (pv 0) pe_int set_list))
      (pss_one (ps_ret (pe_op op_mod (pe_op op_fdiv (pe_op op_mod (pe_callTy call_int1 rfl T.z_int bt_int (pa_cons (pe_op op_mul (pe_op op_fdiv (pe_ix ix_list (pv 0) pe_int (fun _ _ => rfl)) pe_int) pe_int) pa_nil)) pe_int) pe_int) (pv 1))))), ?_⟩
    have dig : ∀ z : Int, ∃ d : Nat, z % (m : Int) = (d : Int) ∧ d < m := fun z => ⟨(z % (m : Int)).toNat, by
      have := Int.emod_nonneg z (show (m : Int) ≠ 0 by omega)
      omega, by
      have := Int.emod_lt_of_pos z (show (0 : Int) < (m : Int) by omega)
      have := Int.emod_nonneg z (show (m : Int) ≠ 0 by omega)
      omega⟩
    refine ⟨_, rfl, b, _, 0, _, rfl, rfl, SqL.of hb, at0, x, 0, rfl, rfl, _, rfl, ?_⟩
    cases decide (0 < x) with
    | true =>
      obtain ⟨d, e, hd⟩ := dig x
      refine iteT ⟨_, rfl, b, _, 0, _, rfl, rfl, SqL.of hb, at0, .inl ⟨x, rfl, _, rfl, x, (m : Int), rfl, rfl, (by omega), ?_⟩⟩
      refine ⟨_, rfl, b, _, 0, _, rfl, rfl, SqL.of hb, at0, _, rfl, x, (m : Int), rfl, rfl, ⟨by omega, by omega⟩, ?_⟩
      refine ⟨_, rfl, b, _, 0, 0, rfl, rfl, hb, rfl, _, rfl, ?_⟩
      have z := k d (x / (m : Int)) y hd
      rw [← e] at z
      exact z
    | false =>
      refine iteF ?_
      refine ⟨_, rfl, b, _, 1, _, rfl, rfl, SqL.of hb, at1, y, 36107, rfl, rfl, .inr ⟨by omega, by omega⟩, _, 7161, rfl, rfl, .inl ⟨_, rfl, _, _, rfl, rfl, (by decide : (0 : Int) < 2147483579), ?_⟩⟩
      refine ⟨_, rfl, b, _, 1, 1, rfl, rfl, hb, rfl, ?_⟩
      refine ⟨_, rfl, b, _, 1, _, rfl, rfl, SqL.of upd_same, at1, _, _, rfl, rfl, ⟨by decide, by decide⟩, _, _, rfl, rfl, .inr ⟨by omega, by omega⟩, .inl ⟨_, rfl, _, _, rfl, rfl, (by decide : (0 : Int) < 2147483563), _, _, rfl, rfl, ⟨by decide, by decide⟩, _, rfl, _, (m : Int), rfl, rfl, (by omega), ?_⟩⟩
      obtain ⟨d, e, hd⟩ := dig ((y * 36107 + 7161) % 2147483579 / 17 * 31397 % 2147483563 / 64)
      have z := k d x ((y * 36107 + 7161) % 2147483579) hd
      rw [← e] at z
      exact z
abbrev N_of : List Str := ["_law_bag_here", "_law_some"]
theorem sc_of : FnScope N_of ["_law_bag_here", "_law_some"] (defScope s__law_of) := ⟨rfl, rfl, rfl, by decide +kernel, rfl, by decide +kernel, by decide +kernel⟩
def sp_of (K : PySem.W.Frag) : Sp := fun vs H Q _ => ∃ (b l : Addr) (xs : List V), vs = [.ref b, .ref l] ∧ BagAt H b ∧ l ≠ b ∧ SqL K H l xs ∧ 0 < xs.length ∧ xs.length < 1000000 ∧ ∀ (v : V) (x y : Int), v ∈ xs → Q v (upd H b (.lst [.int x, .int y]))
theorem sql_off {H : Hp} {l b : Addr} {xs : List V} {o : HO} (h : SqL K H l xs) (ne : l ≠ b) : SqL K (upd H b o) l xs := by
  rcases h with (h | ⟨q, h⟩) | h
  · exact .inl (.inl (by rw [upd_ne ne]; exact h))
  · exact .inl (.inr ⟨q, by rw [upd_ne ne]; exact h⟩)
  · exact .inr h
theorem ok_of (T : Txt w K mg) : FnG P w K mg base 2 a__law_of (sp_of K) := by
  obtain ⟨fd, F⟩ := T.f__law_of
  obtain ⟨fd2, F2⟩ := T.f__law_take
  have nd := sc_of.nd
  refine fnG_of (dvs := []) (ps := ["_law_bag_here", "_law_some"]) F sc_of ⟨[], .nil, F.bindsN fun _ _ _ _ _ _ us hl => match us, hl with | [_, _], _ => rfl⟩ (fun vs H Q E h => ?_) (fun cdv A outer s H vs Q E hg hr h => ?_)
  · obtain ⟨b, l, xs, rfl, _⟩ := h
    rfl
  · obtain ⟨b, l, xs, rfl, hb, ne, hl, z0, z1, k⟩ := h
    refine ⟨_, pss_one (ps_ret (pe_ix ix_list (pv 1) (pe_gf ((ok_take T).callR hg (hr.mono (by omega)) pass) rfl T.g__law_take F2.kp (pa_cons (pv 0) (pa_cons (pe_callB call_len_seq rfl T.z_len bt_len (pa_cons (pv 1) pa_nil)) pa_nil))) (fun _ _ => rfl))), ?_⟩
    refine ⟨_, rfl, _, rfl, _, rfl, l, xs, rfl, .inl hl, b, xs.length, rfl, hb, z0, z1, fun d x y hd => ?_⟩
    exact ⟨l, xs, d, xs[d], rfl, rfl, sql_off hl ne, atI_nat (List.getElem?_eq_getElem hd), k _ x y (List.getElem_mem hd)⟩
end
end Wn
set_option Elab.async false
set_option linter.all false
set_option maxRecDepth 100000
set_option maxHeartbeats 4000000
namespace Wn
open PySem PySem.Spec PyProof.Rows L2 Wl
section
variable {P : Program} {w : World} {K : PySem.W.Frag} {mg : Str → Option Value} {base : Heap}
def plains : List PyData := [.none, .int 0, .int 1, .bool true, .str "x", .int (-5), .tuple [], .list [], .tuple [.int 1, .int 2], .int (10 ^ 18), .str "level", .list [.str "a"]]
theorem plains_small : ∀ d ∈ plains, Small d 1 30 := by
  have h : (plains.all fun d => d.showable && !d.hasDict && decide (d.depth ≤ 1) && decide (d.shown.length ≤ 30)) = true := by decide +kernel
  intro d hd
  have := List.all_eq_true.mp h d hd
  simp only [Bool.and_eq_true, decide_eq_true_eq, Bool.not_eq_true'] at this
  exact ⟨this.1.1.1, this.1.1.2, this.1.2, this.2⟩
abbrev N_plain : List Str := ["_law_bag_here"]
theorem sc_plain : FnScope N_plain ["_law_bag_here"] (defScope s__law_plain) := ⟨rfl, rfl, rfl, by decide +kernel, rfl, by decide +kernel, by decide +kernel⟩
def sp_plain (K : PySem.W.Frag) : Sp := fun vs H Q _ => ∃ (b : Addr) (R : Hp), vs = [.ref b] ∧ BagAt H b ∧ L2.Same R H ∧ R b = none ∧ ∀ v d R' H', Grow [b] R H R' H' → BagAt H' b → Dp K R' v d → d ∈ plains → Q v H'
theorem ok_plain (T : Txt w K mg) : FnG P w K mg base 3 a__law_plain (sp_plain K) := by
  obtain ⟨fd, F⟩ := T.f__law_plain
  obtain ⟨fd2, F2⟩ := T.f__law_of
  have nd := sc_plain.nd
  refine fnG_of (dvs := []) (ps := ["_law_bag_here"]) F sc_plain ⟨[], .nil, F.bindsN fun _ _ _ _ _ _ us hl => match us, hl with | [_], _ => rfl⟩ (fun vs H Q E h => ?_) (fun cdv A outer s H vs Q E hg hr h => ?_)
  · obtain ⟨b, R, rfl, _⟩ := h
    rfl
  · obtain ⟨b, R, rfl, hb, sR, rb, k⟩ := h
    refine ⟨_, pss_one (ps_ret (pe_gf ((ok_of T).callR hg (hr.mono (by omega)) pass) rfl T.g__law_of F2.kp (pa_cons (pv 0) (pa_cons (pe_lst
      (pa_cons pe_non (pa_cons pe_int (pa_cons pe_int (pa_cons pe_bl (pa_cons pe_str (pa_cons (pe_un un_neg pe_int) (pa_cons (pe_tup pa_nil) (pa_cons (pe_lst pa_nil) (pa_cons (pe_tup (pa_cons pe_int (pa_cons pe_int pa_nil)))
        (pa_cons (pe_op op_pow pe_int pe_int) (pa_cons pe_str (pa_cons (pe_lst (pa_cons pe_str pa_nil)) pa_nil))))))))))))) pa_nil)))), ?_⟩
    refine ⟨_, rfl, ?_⟩
    refine gv_cell (ds := plains) (R0 := R) (K := K) (gv_cons gv_non (gv_cons gv_int (gv_cons gv_int (gv_cons gv_bl (gv_cons gv_str (gv_cons (gv_num fun H Q q => ⟨5, rfl, q⟩) (gv_cons (gv_tup gv_nil) (gv_cons (gv_lst gv_nil) (gv_cons (gv_tup (gv_cons gv_int (gv_cons gv_int gv_nil)))
        (gv_cons (gv_num fun H Q q => ⟨10, 18, rfl, rfl, ⟨by decide, by decide, by decide⟩, q⟩) (gv_cons gv_str (gv_cons (gv_lst (gv_cons gv_str gv_nil)) gv_nil)))))))))))) (by decide) (L2.Same.refl R) sR fun p vs R' H' g hp rp np hvs => ?_
    obtain ⟨x, y, hbx⟩ := hb
    have hb2 := g.cell hbx (by simp)
    have rb2 := g.rcell hbx rb
    have npb : p ≠ b := fun z => by rw [z, hbx] at np; cases np
    refine ⟨b, p, vs, rfl, ⟨x, y, hb2⟩, npb, SqL.of hp, by rw [dpAll_length hvs]; decide, by rw [dpAll_length hvs]; decide, fun v x2 y2 hv => ?_⟩
    obtain ⟨j, hj, e⟩ := List.mem_iff_getElem.mp hv
    obtain ⟨d, hd, hdp⟩ := dpAll_get hvs (by rw [List.getElem?_eq_getElem hj, e])
    exact k v d R' _ ((g.mono (fun _ z => nomatch z)).set rb2 (.inl (by simp))) ⟨x2, y2, upd_same⟩ hdp (List.mem_of_getElem? hd)
end
end Wn
set_option Elab.async false
set_option linter.all false
set_option maxRecDepth 100000
set_option maxHeartbeats 4000000
namespace Wl
open PySem PySem.Spec PyProof.Rows L2
/-- xs + [..]: a new list -/
theorem cat_step {K : PySem.W.Frag} {σ : L2.St} {R0 R1 H1 : Hp} {i : Nat} {l : Addr} {vs : List V} {ds es : List PyData} {ta : TA} {Q : VK} (hs : σ[i]? = some (some (.ref l))) (hl : H1 l = some (.lst vs)) (hv : DpAll K R1 vs ds) (ga : GivesA K ta σ R0 es) (z1 : ds.length ≤ 1000) (z2 : es.length ≤ 1000) (e1 : L2.Same R0 R1) (e2 : L2.Same R1 H1)
    (k : ∀ p ws R2 H2, Grow [] R1 H1 R2 H2 → H1 p = none → H2 p = some (.lst ws) → R2 p = none → DpAll K R2 ws (ds ++ es) → Q (.ref p) H2) : tOp rCat (tVar i) (tLst ta) σ H1 Q := by
  refine ⟨_, hs, gv_cell ga z2 e1 e2 fun p us R2 H2 g hp rp np hu => ?_⟩
  have hl2 := g.cell hl (by simp)
  refine ⟨l, p, vs, us, rfl, rfl, hl2, hp, by rw [dpAll_length hv, dpAll_length hu, sizeLine_eq]; omega, fun q nq => ?_⟩
  exact k q _ R2 _ (g.cellN nq) (g.none nq) upd_same (g.rnone nq) (dpAll_append (dpAll_same g.same hv) hu)
theorem seq_asg {te : TE} {g : TG} {r : TS} {D : Ends} {σ : L2.St} {H : Hp} (h : te σ H fun x H1 => g x σ H1 fun σ2 H2 => r D σ2 H2) : tSeq (tAsg te g) r D σ H := h
theorem asg_name {i : Nat} {v : V} {σ : L2.St} {H : Hp} {Q : L2.St → Hp → Prop} (h : Q (σ.set i (some v)) H) : gName i v σ H Q := h
end Wl
namespace Wn
open PySem PySem.Spec PyProof.Rows L2 Wl
section
variable {P : Program} {w : World} {K : PySem.W.Frag} {mg : Str → Option Value} {base : Heap}
def goods1 (a b c : PyData) : List PyData := [.tuple [.str "take", a], .tuple [.str "read", a], .tuple [.str "close"], .tuple [.str "remove", a], .tuple [.str "make"], .tuple [.str "watch", a, b, c]]
def goods2 (a b c : PyData) : List PyData := [.tuple [.str "call", .tuple [.str "close", a, b]], .tuple [.str "call", .tuple [.str "add", a, b, c, a, b]]]
def goods3 (a b c : PyData) : PyData := .tuple [.str "call", .tuple [.str "fork", a]]
def bads1 (a b c : PyData) : List PyData := [.none, .int 3, .str "take", .list [.str "take", a], .tuple [], .tuple [.str "take"], .tuple [.str "take", a, b], .tuple [.str "open"], .tuple [.str "close", a], .tuple [.str "make", a]]
def bads2 (a b c : PyData) : List PyData := [.tuple [.str "watch", a, b], .tuple [.str "watch", a, b, c, a], .tuple [.str "call"], .tuple [.str "call", a]]
def bads3 (a b c : PyData) : List PyData := [.tuple [.str "call", .tuple [.str "close", a]], .tuple [.str "call", .list [.str "close", a, b]], .tuple [.str "call", .tuple [.str "exit", a]], .tuple [a], .tuple [a, b]]
def bads4 (a b c : PyData) : List PyData := [.tuple [.str "read"], .tuple [.str "call", .str "fork"]]
def goods (a b c : PyData) : List PyData := goods1 a b c ++ goods2 a b c ++ [goods3 a b c]
def bads (a b c : PyData) : List PyData := bads1 a b c ++ bads2 a b c ++ bads3 a b c ++ bads4 a b c
theorem goods_ok (a b c : PyData) : ∀ d ∈ goods a b c, isStep d = true := by
  intro d hd
  simp only [goods, goods1, goods2, goods3, List.mem_append, List.mem_cons, List.not_mem_nil, or_false] at hd
  rcases hd with ((rfl | rfl | rfl | rfl | rfl | rfl) | rfl | rfl) | rfl <;> rfl
theorem plain_no : ∀ a ∈ plains, isCall a = false ∧ isStep (.tuple [a]) = false ∧ ∀ b, isStep (.tuple [a, b]) = false := by
  intro a ha
  simp only [plains, List.mem_cons, List.not_mem_nil, or_false] at ha
  rcases ha with rfl | rfl | rfl | rfl | rfl | rfl | rfl | rfl | rfl | rfl | rfl | rfl <;> exact ⟨rfl, rfl, fun _ => rfl⟩
theorem bads_no {a b c : PyData} (ha : a ∈ plains) : ∀ d ∈ bads a b c, isStep d = false := by
  intro d hd
  obtain ⟨p1, p2, p3⟩ := plain_no a ha
  simp only [bads, bads1, bads2, bads3, bads4, List.mem_append, List.mem_cons, List.not_mem_nil, or_false] at hd
  rcases hd with (((rfl | rfl | rfl | rfl | rfl | rfl | rfl | rfl | rfl | rfl) | rfl | rfl | rfl | rfl) | rfl | rfl | rfl | rfl | rfl) | rfl | rfl <;> first | rfl | exact p2 | exact p3 _ | exact p1
theorem small_str (z : Str) (n : Nat) (h : (PyData.str z).shown.length ≤ n) : Small (.str z) 0 n := ⟨rfl, rfl, Nat.le_refl _, h⟩
theorem all_nil {p : PyData → Prop} : ∀ d ∈ ([] : List PyData), p d := fun _ h => nomatch h
theorem all_cons {p : PyData → Prop} {x : PyData} {xs : List PyData} (h : p x) (t : ∀ d ∈ xs, p d) : ∀ d ∈ x :: xs, p d := List.forall_mem_cons.mpr ⟨h, t⟩
theorem all_app {p : PyData → Prop} {xs ys : List PyData} (h : ∀ d ∈ xs, p d) (t : ∀ d ∈ ys, p d) : ∀ d ∈ xs ++ ys, p d := fun d hd => (List.mem_append.mp hd).elim (h d) (t d)
theorem c0 {d : PyData} (h : (d.showable && !d.hasDict && decide (d.depth ≤ 1) && decide (d.shown.length ≤ 30)) = true) : Small d 1 30 := by
  simp only [Bool.and_eq_true, decide_eq_true_eq, Bool.not_eq_true'] at h
  exact ⟨h.1.1.1, h.1.1.2, h.1.2, h.2⟩
theorem s1 {d : PyData} (h : Small d 1 30) : Small d 2 195 := h.mono (by decide) (by decide)
theorem s2 {d : PyData} (h : Small d 2 195) : Small d 3 1185 := h.mono (by decide) (by decide)
theorem sT1 {ds : List PyData} (h : ∀ d ∈ ds, Small d 1 30) (hl : ds.length ≤ 6 := by simp) : Small (.tuple ds) 2 195 := (small_tup h).mono (by decide) (by omega)
theorem sL1 {ds : List PyData} (h : ∀ d ∈ ds, Small d 1 30) (hl : ds.length ≤ 6 := by simp) : Small (.list ds) 2 195 := (small_list h).mono (by decide) (by omega)
theorem sT2 {ds : List PyData} (h : ∀ d ∈ ds, Small d 2 195) (hl : ds.length ≤ 6 := by simp) : Small (.tuple ds) 3 1185 := (small_tup h).mono (by decide) (by omega)
theorem goods_small {a b c : PyData} (ha : Small a 1 30) (hb : Small b 1 30) (hc : Small c 1 30) : ∀ d ∈ goods a b c, Small d 3 1185 :=
  all_app (all_app (all_cons (s2 (sT1 (all_cons (c0 (by decide +kernel)) (all_cons ha all_nil)))) (all_cons (s2 (sT1 (all_cons (c0 (by decide +kernel)) (all_cons ha all_nil)))) (all_cons (s2 (sT1 (all_cons (c0 (by decide +kernel)) all_nil))) (all_cons (s2 (sT1 (all_cons (c0 (by decide +kernel)) (all_cons ha all_nil)))) (all_cons (s2 (sT1 (all_cons (c0 (by decide +kernel)) all_nil))) (all_cons (s2 (sT1 (all_cons (c0 (by decide +kernel)) (all_cons ha (all_cons hb (all_cons hc all_nil)))))) all_nil)))))) (all_cons (sT2 (all_cons (s1 (c0 (by decide +kernel))) (all_cons (sT1 (all_cons (c0 (by decide +kernel)) (all_cons ha (all_cons hb all_nil)))) all_nil))) (all_cons (sT2 (all_cons (s1 (c0 (by decide +kernel))) (all_cons (sT1 (all_cons (c0 (by decide +kernel)) (all_cons ha (all_cons hb (all_cons hc (all_cons ha (all_cons hb all_nil))))))) all_nil))) all_nil))) (all_cons (sT2 (all_cons (s1 (c0 (by decide +kernel))) (all_cons (sT1 (all_cons (c0 (by decide +kernel)) (all_cons ha all_nil))) all_nil))) all_nil)
theorem bads_small {a b c : PyData} (ha : Small a 1 30) (hb : Small b 1 30) (hc : Small c 1 30) : ∀ d ∈ bads a b c, Small d 3 1185 :=
  all_app (all_app (all_app (all_cons (s2 (s1 (c0 (by decide +kernel)))) (all_cons (s2 (s1 (c0 (by decide +kernel)))) (all_cons (s2 (s1 (c0 (by decide +kernel)))) (all_cons (s2 (sL1 (all_cons (c0 (by decide +kernel)) (all_cons ha all_nil)))) (all_cons (s2 (sT1 all_nil)) (all_cons (s2 (sT1 (all_cons (c0 (by decide +kernel)) all_nil))) (all_cons (s2 (sT1 (all_cons (c0 (by decide +kernel)) (all_cons ha (all_cons hb all_nil))))) (all_cons (s2 (sT1 (all_cons (c0 (by decide +kernel)) all_nil))) (all_cons (s2 (sT1 (all_cons (c0 (by decide +kernel)) (all_cons ha all_nil)))) (all_cons (s2 (sT1 (all_cons (c0 (by decide +kernel)) (all_cons ha all_nil)))) all_nil)))))))))) (all_cons (s2 (sT1 (all_cons (c0 (by decide +kernel)) (all_cons ha (all_cons hb all_nil))))) (all_cons (s2 (sT1 (all_cons (c0 (by decide +kernel)) (all_cons ha (all_cons hb (all_cons hc (all_cons ha all_nil))))))) (all_cons (s2 (sT1 (all_cons (c0 (by decide +kernel)) all_nil))) (all_cons (s2 (sT1 (all_cons (c0 (by decide +kernel)) (all_cons ha all_nil)))) all_nil))))) (all_cons (sT2 (all_cons (s1 (c0 (by decide +kernel))) (all_cons (sT1 (all_cons (c0 (by decide +kernel)) (all_cons ha all_nil))) all_nil))) (all_cons (sT2 (all_cons (s1 (c0 (by decide +kernel))) (all_cons (sL1 (all_cons (c0 (by decide +kernel)) (all_cons ha (all_cons hb all_nil)))) all_nil))) (all_cons (sT2 (all_cons (s1 (c0 (by decide +kernel))) (all_cons (sT1 (all_cons (c0 (by decide +kernel)) (all_cons ha all_nil))) all_nil))) (all_cons (s2 (sT1 (all_cons ha all_nil))) (all_cons (s2 (sT1 (all_cons ha (all_cons hb all_nil)))) all_nil)))))) (all_cons (s2 (sT1 (all_cons (c0 (by decide +kernel)) all_nil))) (all_cons (s2 (sT1 (all_cons (c0 (by decide +kernel)) (all_cons (c0 (by decide +kernel)) all_nil)))) all_nil))
abbrev N_step : List Str := ["_law_bag_here", "_law_one", "_law_two", "_law_three", "_law_goods", "_law_bads"]
theorem sc_step : FnScope N_step ["_law_bag_here"] (defScope s__law_step) := ⟨rfl, rfl, rfl, by decide +kernel, rfl, by decide +kernel, by decide +kernel⟩
def sp_step (K : PySem.W.Frag) : Sp := fun vs H Q _ => ∃ (b : Addr) (R : Hp), vs = [.ref b] ∧ BagAt H b ∧ L2.Same R H ∧ R b = none ∧ ∀ v d good R' H', Grow [b] R H R' H' → BagAt H' b → Dp K R' v (.tuple [d, .bool good]) → isStep d = good → Small d 3 1185 → Q v H'
theorem ok_step (T : Txt w K mg) : FnG P w K mg base 4 a__law_step (sp_step K) := by
  obtain ⟨fd, F⟩ := T.f__law_step
  obtain ⟨fd2, F2⟩ := T.f__law_of
  obtain ⟨fd3, F3⟩ := T.f__law_plain
  obtain ⟨fd4, F4⟩ := T.f__law_take
  have nd := sc_step.nd
  refine fnG_of (dvs := []) (ps := ["_law_bag_here"]) F sc_step ⟨[], .nil, F.bindsN fun _ _ _ _ _ _ us hl => match us, hl with | [_], _ => rfl⟩ (fun vs H Q E h => ?_) (fun cdv A outer s H vs Q E hg hr h => ?_)
  · obtain ⟨b, R, rfl, _⟩ := h
    rfl
  · obtain ⟨b, R, rfl, hb, sR, rb, k⟩ := h
    have cP := (ok_plain (P := P) (base := base) T).callR (X := cxOf (L2.CX P w) P w K mg base N_step d__law_step.qual d__law_step.scope d__law_step.a cdv A outer s H E) hg (hr.mono (by omega)) pass
    have cO := (ok_of (P := P) (base := base) T).callR (X := cxOf (L2.CX P w) P w K mg base N_step d__law_step.qual d__law_step.scope d__law_step.a cdv A outer s H E) hg (hr.mono (by omega)) pass
    have cT := (ok_take (P := P) (base := base) T).callR (X := cxOf (L2.CX P w) P w K mg base N_step d__law_step.qual d__law_step.scope d__law_step.a cdv A outer s H E) hg (hr.mono (by omega)) pass
    refine ⟨_, pss_cons (ps_par3 (i := 1) (j := 2) (l := 3) rfl nd rfl rfl rfl (by decide) (by decide) (by decide) rfl rfl rfl (pa_cons (pe_gf cP rfl T.g__law_plain F3.kp (pa_cons (pv 0) pa_nil)) (pa_cons (pe_gf cP rfl T.g__law_plain F3.kp (pa_cons (pv 0) pa_nil)) (pa_cons (pe_gf cP rfl T.g__law_plain F3.kp (pa_cons (pv 0) pa_nil)) pa_nil))) (by rfl))
      (pss_cons (ps_set (i := 4) nd rfl (.inl rfl) (pe_lst (pa_cons (pe_tup (pa_cons pe_str (pa_cons (pv 1) pa_nil))) (pa_cons (pe_tup (pa_cons pe_str (pa_cons (pv 1) pa_nil))) (pa_cons (pe_tup (pa_cons pe_str pa_nil)) (pa_cons (pe_tup (pa_cons pe_str (pa_cons (pv 1) pa_nil))) (pa_cons (pe_tup (pa_cons pe_str pa_nil)) (pa_cons (pe_tup (pa_cons pe_str (pa_cons (pv 1) (pa_cons (pv 2) (pa_cons (pv 3) pa_nil))))) pa_nil))))))) rfl)
      (pss_cons (ps_set (i := 4) nd rfl (.inl rfl) (pe_op op_cat (pv 4) (pe_lst (pa_cons (pe_tup (pa_cons pe_str (pa_cons (pe_tup (pa_cons pe_str (pa_cons (pv 1) (pa_cons (pv 2) pa_nil)))) pa_nil))) (pa_cons (pe_tup (pa_cons pe_str (pa_cons (pe_tup (pa_cons pe_str (pa_cons (pv 1) (pa_cons (pv 2) (pa_cons (pv 3) (pa_cons (pv 1) (pa_cons (pv 2) pa_nil))))))) pa_nil))) pa_nil)))) rfl)
      (pss_cons (ps_expr (pe_bm PySem.F.plainAttrs_list PySem.F.slot_list_append PySem.F.type_list_append mt_append (pv 4) (pa_cons (pe_tup (pa_cons pe_str (pa_cons (pe_tup (pa_cons pe_str (pa_cons (pv 1) pa_nil))) pa_nil))) pa_nil)))
      (pss_cons (ps_set (i := 5) nd rfl (.inl rfl) (pe_lst (pa_cons pe_non (pa_cons pe_int (pa_cons pe_str (pa_cons (pe_lst (pa_cons pe_str (pa_cons (pv 1) pa_nil))) (pa_cons (pe_tup pa_nil) (pa_cons (pe_tup (pa_cons pe_str pa_nil)) (pa_cons (pe_tup (pa_cons pe_str (pa_cons (pv 1) (pa_cons (pv 2) pa_nil)))) (pa_cons (pe_tup (pa_cons pe_str pa_nil)) (pa_cons (pe_tup (pa_cons pe_str (pa_cons (pv 1) pa_nil))) (pa_cons (pe_tup (pa_cons pe_str (pa_cons (pv 1) pa_nil))) pa_nil))))))))))) rfl)
      (pss_cons (ps_set (i := 5) nd rfl (.inl rfl) (pe_op op_cat (pv 5) (pe_lst (pa_cons (pe_tup (pa_cons pe_str (pa_cons (pv 1) (pa_cons (pv 2) pa_nil)))) (pa_cons (pe_tup (pa_cons pe_str (pa_cons (pv 1) (pa_cons (pv 2) (pa_cons (pv 3) (pa_cons (pv 1) pa_nil)))))) (pa_cons (pe_tup (pa_cons pe_str pa_nil)) (pa_cons (pe_tup (pa_cons pe_str (pa_cons (pv 1) pa_nil))) pa_nil)))))) rfl)
      (pss_cons (ps_set (i := 5) nd rfl (.inl rfl) (pe_op op_cat (pv 5) (pe_lst (pa_cons (pe_tup (pa_cons pe_str (pa_cons (pe_tup (pa_cons pe_str (pa_cons (pv 1) pa_nil))) pa_nil))) (pa_cons (pe_tup (pa_cons pe_str (pa_cons (pe_lst (pa_cons pe_str (pa_cons (pv 1) (pa_cons (pv 2) pa_nil)))) pa_nil))) (pa_cons (pe_tup (pa_cons pe_str (pa_cons (pe_tup (pa_cons pe_str (pa_cons (pv 1) pa_nil))) pa_nil))) (pa_cons (pe_tup (pa_cons (pv 1) pa_nil)) (pa_cons (pe_tup (pa_cons (pv 1) (pa_cons (pv 2) pa_nil))) pa_nil))))))) rfl)
      (pss_cons (ps_set (i := 5) nd rfl (.inl rfl) (pe_op op_cat (pv 5) (pe_lst (pa_cons (pe_tup (pa_cons pe_str pa_nil)) (pa_cons (pe_tup (pa_cons pe_str (pa_cons pe_str pa_nil))) pa_nil)))) rfl)
      (pss_one (ps_ret (pe_ifExp (pt_cmpR op_gt (pe_gf cT rfl T.g__law_take F4.kp (pa_cons (pv 0) (pa_cons pe_int pa_nil))) pe_int (nomark _))
        (pe_tup (pa_cons (pe_gf cO rfl T.g__law_of F2.kp (pa_cons (pv 0) (pa_cons (pv 4) pa_nil))) (pa_cons pe_bl pa_nil)))
        (pe_tup (pa_cons (pe_gf cO rfl T.g__law_of F2.kp (pa_cons (pv 0) (pa_cons (pv 5) pa_nil))) (pa_cons pe_bl pa_nil))))))))))))), ?_⟩
    obtain ⟨x0, y0, hb0⟩ := id hb
    have bl : ∀ {R' H' : Hp} {L : List Addr}, Grow L R H R' H' → R' b = none := fun g => g.rcell hb0 rb
    refine ⟨_, rfl, b, R, rfl, hb, sR, rb, fun v1 d1 R1 H1 g1 hb1 hv1 m1 => ?_⟩
    refine ⟨_, rfl, b, R1, rfl, hb1, g1.sub, bl g1, fun v2 d2 R2 H2 g2 hb2 hv2 m2 => ?_⟩
    have G2 := g1.trans g2
    refine ⟨_, rfl, b, R2, rfl, hb2, G2.sub, bl G2, fun v3 d3 R3 H3 g3 hb3 hv3 m3 => ?_⟩
    have G3 := G2.trans g3
    have h1 := dp_same (g2.same.trans g3.same) hv1
    have h2 := dp_same g3.same hv2
    have h3 := hv3
    have eb : ∀ {p : Addr}, H p = none → b ≠ p := fun n z => by rw [← z, hb0] at n; cases n
    clear hv1 hv2 hv3 g1 g2 g3 hb1 hb2 G2
    refine ⟨v1, v2, v3, rfl, ?_⟩
    -- the right steps
    try dsimp only
    refine seq_asg ?_
    refine gv_cell (K := K) (R0 := R3) (ds := goods1 d1 d2 d3) (gv_cons (gv_tup (gv_cons gv_str (gv_cons (gv_var rfl h1) gv_nil)) (by simp)) (gv_cons (gv_tup (gv_cons gv_str (gv_cons (gv_var rfl h1) gv_nil)) (by simp)) (gv_cons (gv_tup (gv_cons gv_str gv_nil) (by simp)) (gv_cons (gv_tup (gv_cons gv_str (gv_cons (gv_var rfl h1) gv_nil)) (by simp)) (gv_cons (gv_tup (gv_cons gv_str gv_nil) (by simp)) (gv_cons (gv_tup (gv_cons gv_str (gv_cons (gv_var rfl h1) (gv_cons (gv_var rfl h2) (gv_cons (gv_var rfl h3) gv_nil)))) (by simp)) gv_nil)))))) (by simp [goods1]) (L2.Same.refl _) G3.sub fun p1 vs1 R4 H4 g4 hp1 rp1 np1 hw1 => ?_
    have G4 := G3.trans (g4.mono (fun _ z => nomatch z))
    refine asg_name ?_
    try dsimp only
    refine seq_asg ?_
    refine cat_step (K := K) (R0 := R3) (ds := goods1 d1 d2 d3) (es := goods2 d1 d2 d3) rfl hp1 hw1 (gv_cons (gv_tup (gv_cons gv_str (gv_cons (gv_tup (gv_cons gv_str (gv_cons (gv_var rfl h1) (gv_cons (gv_var rfl h2) gv_nil))) (by simp)) gv_nil)) (by simp)) (gv_cons (gv_tup (gv_cons gv_str (gv_cons (gv_tup (gv_cons gv_str (gv_cons (gv_var rfl h1) (gv_cons (gv_var rfl h2) (gv_cons (gv_var rfl h3) (gv_cons (gv_var rfl h1) (gv_cons (gv_var rfl h2) gv_nil)))))) (by simp)) gv_nil)) (by simp)) gv_nil)) (by simp [goods1]) (by simp [goods2]) g4.same G4.sub fun p2 vs2 R5 H5 g5 np2 hp2 rp2 hw2 => ?_
    have G5 := G4.trans (g5.mono (fun _ z => nomatch z))
    have np2' : H p2 = none := G4.none np2
    refine ⟨_, rfl, .inl ⟨rfl, _, SqL.of hp2⟩, (show Gives K _ _ R3 (goods3 d1 d2 d3) from (gv_tup (gv_cons gv_str (gv_cons (gv_tup (gv_cons gv_str (gv_cons (gv_var rfl h1) gv_nil)) (by simp)) gv_nil)) (by simp))) R5 H5 _ (g4.same.trans g5.same) G5.sub fun v6 R6 H6 g6 hv6 => ?_⟩
    have hp26 := g6.cell hp2 (by simp)
    have rp26 := g6.rcell hp2 rp2
    refine ⟨p2, vs2, v6, rfl, rfl, hp26, by rw [dpAll_length hw2, sizeLine_eq]; simp [goods1, goods2], ?_⟩
    have G6 := (G5.trans (g6.mono (fun _ z => nomatch z))).set (a := p2) (o := .lst (vs2 ++ [v6])) rp26 (.inr np2')
    have hw6 : DpAll K R6 (vs2 ++ [v6]) (goods d1 d2 d3) := dpAll_snoc (dpAll_same g6.same hw2) hv6
    have hg6 : upd H6 p2 (.lst (vs2 ++ [v6])) p2 = some (.lst (vs2 ++ [v6])) := upd_same
    have S6 : L2.Same R3 R6 := (g4.same.trans g5.same).trans g6.same
    have hb6 : BagAt (upd H6 p2 (.lst (vs2 ++ [v6]))) b := by
      obtain ⟨x, y, q⟩ := hb3
      exact ⟨x, y, by rw [upd_ne (eb np2')]; exact g6.cell (g5.cell (g4.cell q (by simp)) (by simp)) (by simp)⟩
    generalize upd H6 p2 (.lst (vs2 ++ [v6])) = H7 at G6 hg6 hb6 ⊢
    generalize vs2 ++ [v6] = gs at hw6 hg6
    clear G5 G4 g4 g5 g6 hp1 hp2 rp1 rp2 np1 np2 hw1 hw2 hv6 hp26 hb3 G3
    -- the wrong ones
    try dsimp only
    refine seq_asg ?_
    refine gv_cell (K := K) (R0 := R3) (ds := bads1 d1 d2 d3) (gv_cons gv_non (gv_cons gv_int (gv_cons gv_str (gv_cons (gv_lst (gv_cons gv_str (gv_cons (gv_var rfl h1) gv_nil)) (by simp)) (gv_cons (gv_tup gv_nil (by simp)) (gv_cons (gv_tup (gv_cons gv_str gv_nil) (by simp)) (gv_cons (gv_tup (gv_cons gv_str (gv_cons (gv_var rfl h1) (gv_cons (gv_var rfl h2) gv_nil))) (by simp)) (gv_cons (gv_tup (gv_cons gv_str gv_nil) (by simp)) (gv_cons (gv_tup (gv_cons gv_str (gv_cons (gv_var rfl h1) gv_nil)) (by simp)) (gv_cons (gv_tup (gv_cons gv_str (gv_cons (gv_var rfl h1) gv_nil)) (by simp)) gv_nil)))))))))) (by simp [bads1]) S6 G6.sub fun p3 vs3 R8 H8 g8 hp3 rp3 np3 hw3 => ?_
    have G8 := G6.trans (g8.mono (fun _ z => nomatch z))
    refine asg_name ?_
    try dsimp only
    refine seq_asg ?_
    refine cat_step (K := K) (R0 := R3) (ds := bads1 d1 d2 d3) (es := bads2 d1 d2 d3) rfl hp3 hw3 (gv_cons (gv_tup (gv_cons gv_str (gv_cons (gv_var rfl h1) (gv_cons (gv_var rfl h2) gv_nil))) (by simp)) (gv_cons (gv_tup (gv_cons gv_str (gv_cons (gv_var rfl h1) (gv_cons (gv_var rfl h2) (gv_cons (gv_var rfl h3) (gv_cons (gv_var rfl h1) gv_nil))))) (by simp)) (gv_cons (gv_tup (gv_cons gv_str gv_nil) (by simp)) (gv_cons (gv_tup (gv_cons gv_str (gv_cons (gv_var rfl h1) gv_nil)) (by simp)) gv_nil)))) (by simp [bads1]) (by simp [bads2]) (S6.trans g8.same) G8.sub fun p4 vs4 R9 H9 g9 np4 hp4 rp4 hw4 => ?_
    have G9 := G8.trans (g9.mono (fun _ z => nomatch z))
    refine asg_name ?_
    try dsimp only
    refine seq_asg ?_
    refine cat_step (K := K) (R0 := R3) (es := bads3 d1 d2 d3) rfl hp4 hw4 (gv_cons (gv_tup (gv_cons gv_str (gv_cons (gv_tup (gv_cons gv_str (gv_cons (gv_var rfl h1) gv_nil)) (by simp)) gv_nil)) (by simp)) (gv_cons (gv_tup (gv_cons gv_str (gv_cons (gv_lst (gv_cons gv_str (gv_cons (gv_var rfl h1) (gv_cons (gv_var rfl h2) gv_nil))) (by simp)) gv_nil)) (by simp)) (gv_cons (gv_tup (gv_cons gv_str (gv_cons (gv_tup (gv_cons gv_str (gv_cons (gv_var rfl h1) gv_nil)) (by simp)) gv_nil)) (by simp)) (gv_cons (gv_tup (gv_cons (gv_var rfl h1) gv_nil) (by simp)) (gv_cons (gv_tup (gv_cons (gv_var rfl h1) (gv_cons (gv_var rfl h2) gv_nil)) (by simp)) gv_nil))))) (by simp [bads1, bads2]) (by simp [bads3]) ((S6.trans g8.same).trans g9.same) G9.sub fun p5 vs5 Ra Ha ga np5 hp5 rp5 hw5 => ?_
    have Ga := G9.trans (ga.mono (fun _ z => nomatch z))
    refine asg_name ?_
    try dsimp only
    refine seq_asg ?_
    refine cat_step (K := K) (R0 := R3) (es := bads4 d1 d2 d3) rfl hp5 hw5 (gv_cons (gv_tup (gv_cons gv_str gv_nil) (by simp)) (gv_cons (gv_tup (gv_cons gv_str (gv_cons gv_str gv_nil)) (by simp)) gv_nil)) (by simp [bads1, bads2, bads3]) (by simp [bads4]) (((S6.trans g8.same).trans g9.same).trans ga.same) Ga.sub fun p6 vs6 Rb Hb gb np6 hp6 rp6 hw6b => ?_
    have Gb := Ga.trans (gb.mono (fun _ z => nomatch z))
    have np6' : H p6 = none := Ga.none np6
    have hgb := gb.cell (ga.cell (g9.cell (g8.cell hg6 (by simp)) (by simp)) (by simp)) (by simp)
    have hwb := dpAll_same (((g8.same.trans g9.same).trans ga.same).trans gb.same) hw6
    have hbb : BagAt Hb b := by
      obtain ⟨x, y, q⟩ := hb6
      exact ⟨x, y, gb.cell (ga.cell (g9.cell (g8.cell q (by simp)) (by simp)) (by simp)) (by simp)⟩
    clear G9 G8 Ga G6 g8 g9 ga gb hp3 hp4 hp5 hw3 hw4 hw5 hb6 hg6
    have lg : gs.length = 9 := (dpAll_length hwb).trans rfl
    have lb : vs6.length = 21 := (dpAll_length hw6b).trans rfl
    -- which
    refine ⟨_, rfl, b, 8, rfl, hbb, by decide, by decide, fun kk x y hk => ⟨_, _, rfl, rfl, _, rfl, ?_⟩⟩
    have Gc := Gb.set (a := b) (o := .lst [.int x, .int y]) (bl Gb) (.inl (by simp))
    have hgc : upd Hb b (.lst [.int x, .int y]) p2 = some (.lst gs) := by rw [upd_ne (Ne.symm (eb np2'))]; exact hgb
    have hbc : upd Hb b (.lst [.int x, .int y]) p6 = some (.lst vs6) := by rw [upd_ne (Ne.symm (eb np6'))]; exact hp6
    have hBc : BagAt (upd Hb b (.lst [.int x, .int y])) b := ⟨x, y, upd_same⟩
    generalize upd Hb b (.lst [.int x, .int y]) = Hc at Gc hgc hbc hBc ⊢
    have fin : ∀ (xs : List V) (ds : List PyData) (good : Bool) (v : V) (x y : Int), DpAll K Rb xs ds → (∀ d ∈ ds, isStep d = good) → (∀ d ∈ ds, Small d 3 1185) → v ∈ xs → ∀ p, upd Hc b (.lst [.int x, .int y]) p = none → Q (.ref p) (upd (upd Hc b (.lst [.int x, .int y])) p (.tup [v, .bl good])) := by
      intro xs ds good v x y hxs hgd hsm hv p np
      obtain ⟨j, hj, e⟩ := List.mem_iff_getElem.mp hv
      obtain ⟨d, hd, hdp⟩ := dpAll_get hxs (by rw [List.getElem?_eq_getElem hj, e])
      have hm := List.mem_of_getElem? hd
      have Gd := Gc.set (a := b) (o := .lst [.int x, .int y]) (bl Gb) (.inl (by simp))
      have Ge := Gd.add (o := .tup [v, .bl good]) np
      have npb : b ≠ p := fun z => by rw [← z, upd_same] at np; cases np
      exact k _ d good _ _ Ge ⟨x, y, by rw [upd_ne npb, upd_same]⟩ (.tup (SqT.of upd_same) (.cons (dp_same (same_new (L2.Same.refl _) (Gd.rnone np)) hdp) (.cons (.bl good) .nil))) (hgd d hm) (hsm d hm)
    have z3 : (1 : Nat) ≤ 1000000 := by decide
    cases decide ((0 : Int) < ((kk : Nat) : Int)) with
    | true => exact iteT ⟨_, rfl, _, rfl, b, p2, gs, rfl, hBc, Ne.symm (eb np2'), SqL.of hgc, by omega, by omega, fun v x y hv => ⟨(by rw [sizeLine_eq]; simp), fun p np => fin gs _ true v x y hwb (goods_ok d1 d2 d3) (goods_small (plains_small _ m1) (plains_small _ m2) (plains_small _ m3)) hv p np⟩⟩
    | false => exact iteF ⟨_, rfl, _, rfl, b, p6, vs6, rfl, hBc, Ne.symm (eb np6'), SqL.of hbc, by omega, by omega, fun v x y hv => ⟨(by rw [sizeLine_eq]; simp), fun p np => fin vs6 _ false v x y hw6b (bads_no m1) (bads_small (plains_small _ m1) (plains_small _ m2) (plains_small _ m3)) hv p np⟩⟩
end
end Wn
set_option Elab.async false
set_option linter.all false
set_option maxRecDepth 100000
set_option maxHeartbeats 4000000
namespace Wn
open PySem PySem.Spec PyProof.Rows L2 Wl
section
variable {P : Program} {w : World} {K : PySem.W.Frag} {mg : Str → Option Value} {base : Heap}
theorem ifI_t {a b : Int} {p q : Prop} (h : a = b) (k : p) : if decide (V.int a = V.int b) = true then p else q := by
  rw [decide_eq_true (congrArg V.int h)]
  exact iteT k
theorem ifI_f {a b : Int} {p q : Prop} (h : a ≠ b) (k : q) : if decide (V.int a = V.int b) = true then p else q := by
  rw [decide_eq_false fun z => h (V.int.inj z)]
  exact iteF k
/-! ### crews made by the law -/
def CrewAt (K : PySem.W.Frag) (H : Hp) (x : Addr) (ws : List (PyData × List PyData)) : Prop := ∃ (dx y p l1 l2 l3 : Addr), H x = some (.ins c_Crew dx (crewF y p l1 l2 l3)) ∧ Dp K H (.ref p) (.tuple (ws.map wk)) ∧ H l1 = some (.lst (List.replicate ws.length (.int 0)))
/-- the crew, or BadStep -/
def MadeE (K : PySem.W.Frag) (H : Hp) (ws : List (PyData × List PyData)) (Q : VK) (E : XK) : Prop := match firstBad 0 (ws.map (·.2)) with
  | none => ∀ x H', L2.Same H H' → CrewAt K H' x ws → Q (.ref x) H'
  | some (i, j) => ∀ H' d, L2.Same H H' → H' d = none → E (.ref c_BadStep) (some d) (upd H' d (.xd (errF "BadStep" ["worker", "step"] [.int (i : Nat), .int (j : Nat)])))
theorem new_crew {H : Hp} {bx : Addr} {wvs : List V} {ws : List (PyData × List PyData)} {Q : VK} {E : XK} (hb : Box H bx) (hv : DpAll K H wvs (ws.map wk)) (hz : wvs.length ≤ 1000) (k : MadeE K H ws Q E) :
    rMk c_Crew (fun vs H Q E => ∃ us rest, vs = us ++ rest ∧ us.length = 2 ∧ rest.length ≤ sizeLine ∧ ∀ p, H p = none → sp_Crew_init K (us ++ [V.ref p]) (upd H p (.tup rest)) Q E) E (.ref bx :: wvs) H Q := by
  intro x dx nx nd hne
  refine ⟨[.ref x, .ref bx], wvs, rfl, rfl, by rw [sizeLine_eq]; omega, fun p np => ?_⟩
  have e1 : p ≠ x := fun z => by rw [z, upd_same] at np; cases np
  have e2 : p ≠ dx := fun z => by rw [z, upd_ne hne, upd_same] at np; cases np
  have np2 : H p = none := by rw [upd_ne e1, upd_ne e2] at np; exact np
  have hl : wvs.length = ws.length := by rw [dpAll_length hv, List.length_map]
  refine ⟨x, bx, p, dx, wvs, H, ws, rfl, same_up (same_up (same_up (L2.Same.refl _) nd) nx) np2, nx, np2, Ne.symm e1, hb, upd_same, hz, hv, by rw [upd_ne (Ne.symm e1), upd_same], ?_⟩
  unfold MadeE at k
  cases eF : firstBad 0 (ws.map (·.2)) with
  | none =>
    rw [eF] at k
    intro H' y l1 l2 l3 s1 hp hx h1 h2 h3 b
    refine ⟨rfl, k x H' s1 ⟨dx, y, p, l1, l2, l3, hx, .tup (SqT.of hp) (dpAll_same s1 hv), by rw [← hl]; exact h1⟩⟩
  | some ij =>
    obtain ⟨i, j⟩ := ij
    rw [eF] at k
    exact k
abbrev N_made : List Str := ["_law_box", "_law_workers"]
theorem sc_made : FnScope N_made ["_law_box", "_law_workers"] (defScope s__law_made) := ⟨rfl, rfl, rfl, by decide +kernel, rfl, by decide +kernel, by decide +kernel⟩
def sp_made (K : PySem.W.Frag) : Sp := fun vs H Q E => ∃ (bx l : Addr) (wvs : List V) (ws : List (PyData × List PyData)), vs = [.ref bx, .ref l] ∧ Box H bx ∧ SqL K H l wvs ∧ DpAll K H wvs (ws.map wk) ∧ wvs.length ≤ 3 ∧ MadeE K H ws Q E
theorem ok_made (T : Txt w K mg) : FnG P w K mg base 9 a__law_made (sp_made K) := by
  obtain ⟨fd, F⟩ := T.f__law_made
  have nd := sc_made.nd
  refine fnG_of (dvs := []) (ps := ["_law_box", "_law_workers"]) F sc_made ⟨[], .nil, F.bindsN fun _ _ _ _ _ _ us hl => match us, hl with | [_, _], _ => rfl⟩ (fun vs H Q E h => ?_) (fun cdv A outer s H vs Q E hg hr h => ?_)
  · obtain ⟨bx, l, wvs, ws, rfl, _⟩ := h
    rfl
  · obtain ⟨bx, l, wvs, ws, rfl, hb, hl, hv, hz, k⟩ := h
    have cN := (ok_Crew_init (P := P) (base := base) T).makeR (X := cxOf (L2.CX P w) P w K mg base N_made d__law_made.qual d__law_made.scope d__law_made.a cdv A outer s H E) T.k_Crew hg (hr.mono (by omega)) pass
    refine ⟨_, pss_cons (ps_if (pt_cmpR op_eq (pe_callB call_len_seq rfl T.z_len bt_len (pa_cons (pv 1) pa_nil)) pe_int (nomark _)) (pss_one (ps_ret (pe_gf cN rfl T.g_Crew T.k_Crew.kp (pa_cons (pv 0) pa_nil)))) pss_nil)
      (pss_cons (ps_if (pt_cmpR op_eq (pe_callB call_len_seq rfl T.z_len bt_len (pa_cons (pv 1) pa_nil)) pe_int (nomark _)) (pss_one (ps_ret (pe_gf cN rfl T.g_Crew T.k_Crew.kp (pa_cons (pv 0) (pa_cons (pe_ix ix_list (pv 1) pe_int (fun _ _ => rfl)) pa_nil))))) pss_nil)
      (pss_cons (ps_if (pt_cmpR op_eq (pe_callB call_len_seq rfl T.z_len bt_len (pa_cons (pv 1) pa_nil)) pe_int (nomark _)) (pss_one (ps_ret (pe_gf cN rfl T.g_Crew T.k_Crew.kp (pa_cons (pv 0) (pa_cons (pe_ix ix_list (pv 1) pe_int (fun _ _ => rfl)) (pa_cons (pe_ix ix_list (pv 1) pe_int (fun _ _ => rfl)) pa_nil)))))) pss_nil)
      (pss_one (ps_ret (pe_gf cN rfl T.g_Crew T.k_Crew.kp (pa_cons (pv 0) (pa_cons (pe_ix ix_list (pv 1) pe_int (fun _ _ => rfl)) (pa_cons (pe_ix ix_list (pv 1) pe_int (fun _ _ => rfl)) (pa_cons (pe_ix ix_list (pv 1) pe_int (fun _ _ => rfl)) pa_nil))))))))), ?_⟩
    have fin := new_crew (K := K) (E := E) hb hv (by omega) k
    match wvs, hz with
    | [], _ =>
      refine ⟨_, rfl, l, _, rfl, .inl hl, rfl, _, rfl, ifI_t rfl ?_⟩
      refine ⟨_, rfl, ?_⟩
      exact fin
    | [u1], _ =>
      refine ⟨_, rfl, l, _, rfl, .inl hl, rfl, _, rfl, ?_⟩
      refine ifI_f (by simp) ?_
      refine ⟨_, rfl, l, _, rfl, .inl hl, rfl, _, rfl, ?_⟩
      refine ifI_t rfl ?_
      refine ⟨_, rfl, ?_⟩
      refine ⟨_, rfl, l, _, 0, _, rfl, rfl, hl, at0, ?_⟩
      exact fin
    | [u1, u2], _ =>
      refine ⟨_, rfl, l, _, rfl, .inl hl, rfl, _, rfl, ?_⟩
      refine ifI_f (by simp) ?_
      refine ⟨_, rfl, l, _, rfl, .inl hl, rfl, _, rfl, ?_⟩
      refine ifI_f (by simp) ?_
      refine ⟨_, rfl, l, _, rfl, .inl hl, rfl, _, rfl, ?_⟩
      refine ifI_t rfl ?_
      refine ⟨_, rfl, ?_⟩
      refine ⟨_, rfl, l, _, 0, _, rfl, rfl, hl, at0, ?_⟩
      refine ⟨_, rfl, l, _, 1, _, rfl, rfl, hl, at1, ?_⟩
      exact fin
    | [u1, u2, u3], _ =>
      refine ⟨_, rfl, l, _, rfl, .inl hl, rfl, _, rfl, ?_⟩
      refine ifI_f (by simp) ?_
      refine ⟨_, rfl, l, _, rfl, .inl hl, rfl, _, rfl, ?_⟩
      refine ifI_f (by simp) ?_
      refine ⟨_, rfl, l, _, rfl, .inl hl, rfl, _, rfl, ?_⟩
      refine ifI_f (by simp) ?_
      refine ⟨_, rfl, ?_⟩
      refine ⟨_, rfl, l, _, 0, _, rfl, rfl, hl, at0, ?_⟩
      refine ⟨_, rfl, l, _, 1, _, rfl, rfl, hl, at1, ?_⟩
      refine ⟨_, rfl, l, _, 2, _, rfl, rfl, hl, atI_nat (j := 2) rfl, ?_⟩
      exact fin
    | _ :: _ :: _ :: _ :: _, h => exact absurd h (by simp)
abbrev N_built : List Str := ["_law_box", "_law_workers"]
theorem sc_built : FnScope N_built ["_law_box", "_law_workers"] (defScope s__law_built) := ⟨rfl, rfl, rfl, by decide +kernel, rfl, by decide +kernel, by decide +kernel⟩
theorem ok_built (T : Txt w K mg) : FnG P w K mg base 10 a__law_built (sp_made K) := by
  obtain ⟨fd, F⟩ := T.f__law_built
  obtain ⟨fd2, F2⟩ := T.f__law_made
  refine fnG_of (dvs := []) (ps := ["_law_box", "_law_workers"]) F sc_built ⟨[], .nil, F.bindsN fun _ _ _ _ _ _ us hl => match us, hl with | [_, _], _ => rfl⟩ (fun vs H Q E h => ?_) (fun cdv A outer s H vs Q E hg hr h => ?_)
  · obtain ⟨bx, l, wvs, ws, rfl, _⟩ := h
    rfl
  · have h0 := h
    obtain ⟨bx, l, wvs, ws, rfl, _⟩ := h0
    refine ⟨_, pss_one (ps_ret (pe_gf ((ok_made T).callR hg (hr.mono (by omega)) pass) rfl T.g__law_made F2.kp (pa_cons (pv 0) (pa_cons (pv 1) pa_nil)))), ?_⟩
    exact ⟨_, rfl, _, rfl, h⟩
end
end Wn
set_option Elab.async false
set_option linter.all false
set_option maxRecDepth 100000
set_option maxHeartbeats 4000000
namespace Wn
open PySem PySem.Spec PyProof.Rows L2 Wl
section
variable {P : Program} {w : World} {K : PySem.W.Frag} {mg : Str → Option Value} {base : Heap}
theorem bt_TypeError : bootBuiltins ("TypeError" : Str) = some (.type "TypeError") := by decide +kernel
/-! ### _law_found -/
def dueOf (ws : List (PyData × List PyData)) : PyData := match firstBad 0 (ws.map (·.2)) with
  | none => .int (leftOf (ws.map (·.2)) (List.replicate ws.length 0) : Nat)
  | some (i, j) => .tuple [.int (i : Nat), .int (j : Nat)]
abbrev N_found : List Str := ["_law_box", "_law_workers", "_law_is_good", "e"]
theorem sc_found : FnScope N_found ["_law_box", "_law_workers"] (defScope s__law_found) := ⟨rfl, rfl, rfl, by decide +kernel, rfl, by decide +kernel, by decide +kernel⟩
def sp_found (K : PySem.W.Frag) : Sp := fun vs H Q _ => ∃ (bx l : Addr) (wvs : List V) (ws : List (PyData × List PyData)), vs = [.ref bx, .ref l] ∧ Box H bx ∧ SqL K H l wvs ∧ DpAll K H wvs (ws.map wk) ∧ wvs.length ≤ 3 ∧ leftOf (ws.map (·.2)) (List.replicate ws.length 0) ≤ 1000 ∧ ∀ v H', L2.Same H H' → Dp K H' v (dueOf ws) → ((∃ i, v = .int i) ∨ ∃ a, v = .ref a) → Q v H'
theorem ok_found (T : Txt w K mg) : FnG P w K mg base 12 a__law_found (sp_found K) := by
  obtain ⟨fd, F⟩ := T.f__law_found
  obtain ⟨fd2, F2⟩ := T.f__law_built
  have nd := sc_found.nd
  refine fnG_of (dvs := []) (ps := ["_law_box", "_law_workers"]) F sc_found ⟨[], .nil, F.bindsN fun _ _ _ _ _ _ us hl => match us, hl with | [_, _], _ => rfl⟩ (fun vs H Q E h => ?_) (fun cdv A outer s H vs Q E hg hr h => ?_)
  · obtain ⟨bx, l, wvs, ws, rfl, _⟩ := h
    rfl
  · obtain ⟨bx, l, wvs, ws, rfl, hb, hl, hv, hz, hn, k⟩ := h
    refine ⟨_, pss_one (ps_try_as (i := 3) (tb := fun W => tRet (tCB (fun xs H Q => ∃ a dx fs, xs = [.ref a] ∧ H a = some (.ins c_Crew dx fs) ∧ sp_Crew_len K [.ref a] H (fun v H' => ∃ n : Nat, v = .int (n : Nat) ∧ n < 2 ^ 62 ∧ Q (.int (n : Nat)) H') (fun _ _ _ => False)) (tCons (tCW (sp_made K) W (tCons (tVar 0) (tCons (tVar 1) tNil))) tNil)))
      (ts := fun a cls d => tSeq (tAsg (tAndV (tCB (rIsX K c_BadStep a cls d) (tCons (tVar 3) (tCons (tC (.ty "TypeError")) tNil))) (tNotV (tCB (rIsX K c_BadStep a cls d) (tCons (tVar 3) (tCons (tTup (tCons (tC (.ref c_BadCall)) (tCons (tC (.ref c_NotASet)) (tCons (tC (.ref c_NotASource)) tNil)))) tNil))))) (gName 2)) (tRet (tIf (tB (tVar 2)) (tTup (tCons (tXf a cls d c_BadStep "worker" (tVar 3)) (tCons (tXf a cls d c_BadStep "step" (tVar 3)) tNil))) (tC (.str "another class"))))) (Wout := fun cls d _ H => E cls d H) rfl rfl nd rfl rfl ⟨rfl, by decide, Or.inl T.g_BadStep⟩ (takes_of rfl rfl rfl rfl)
      (fun W pn xe tk _ => pss_one (ps_ret (pe_callB (call_lenG T.cl_Crew T.m_Crew_len (ok_Crew_len T) hg (hr.mono (by omega)) passN) rfl T.z_len bt_len (pa_cons (pe_gfW (ok_built T) hg (hr.mono (by omega)) tk rfl T.g__law_built F2.kp (pa_cons (pv 0) (pa_cons (pv 1) pa_nil))) pa_nil))))
      (fun a oe cls d pn hz hf => pss_cons (ps_set (i := 2) nd rfl (.inl rfl) (pe_and (pe_callB (call_isX T.ec_BadStep hz hf) rfl T.z_isinstance bt_isinstance (pa_cons (pv 3) (pa_cons (pgt T.z_TypeError bt_TypeError rfl) pa_nil)))
        (pe_one (pe_not (pe_callB (call_isX T.ec_BadStep hz hf) rfl T.z_isinstance bt_isinstance (pa_cons (pv 3) (pa_cons (pe_tup (pa_cons (pgr T.g_BadCall rfl) (pa_cons (pgr T.g_NotASet rfl) (pa_cons (pgr T.g_NotASource rfl) pa_nil)))) pa_nil)))))) rfl)
        (pss_one (ps_ret (pe_ifExp (pt_val (pv 2)) (pe_tup (pa_cons (pe_xf T.x_BadStep.xf (T.x_BadStep.no _ (by decide)) hz hf (pv 3)) (pa_cons (pe_xf T.x_BadStep.xf (T.x_BadStep.no _ (by decide)) hz hf (pv 3)) pa_nil))) pe_str))))), ?_⟩
    refine ⟨_, rfl, _, rfl, bx, l, wvs, ws, rfl, hb, hl, hv, hz, ?_⟩
    unfold MadeE
    unfold dueOf at k
    cases eF : firstBad 0 (ws.map (·.2)) with
    | none =>
      rw [eF] at k
      intro x H' s1 cx
      obtain ⟨dx, y, p, l1, l2, l3, hx, dp, h1⟩ := cx
      refine ⟨x, dx, _, rfl, hx, x, dx, p, l1, _, ws, List.replicate ws.length 0, rfl, hx, rfl, rfl, dp, by rw [List.map_replicate]; exact h1, List.length_replicate, fun q hq => by rw [List.eq_of_mem_replicate hq]; omega, by omega, fun H2 s2 => ⟨_, rfl, by omega, ?_⟩⟩
      exact k _ H2 (s1.trans s2) (.int _) (.inl ⟨_, rfl⟩)
    | some ij =>
      obtain ⟨i, j⟩ := ij
      rw [eF] at k
      intro H' d s1 nd2
      refine ⟨true, T.em_BadStep, fun _ a na => ?_, fun z => nomatch z⟩
      have nda : d ≠ a := fun z => by rw [z, upd_same] at na; cases na
      have s2 : L2.Same H (upd H' d (.xd (errF "BadStep" ["worker", "step"] [.int (i : Nat), .int (j : Nat)]))) := same_new s1 nd2
      have hd2 : upd H' d (.xd (errF "BadStep" ["worker", "step"] [.int (i : Nat), .int (j : Nat)])) d = some (.xd (errF "BadStep" ["worker", "step"] [.int (i : Nat), .int (j : Nat)])) := upd_same
      generalize upd H' d (.xd (errF "BadStep" ["worker", "step"] [.int (i : Nat), .int (j : Nat)])) = H2 at s2 hd2 ⊢
      refine ⟨_, rfl, .ty "TypeError", d, _, rfl, rfl, rfl, hd2, .inl ⟨.type "TypeError", true, (fun u h => h), T.ki_BadStep_TypeError, _, rfl, iteT ?_⟩⟩
      refine ⟨_, rfl, (by rw [sizeLine_eq]; simp), fun tp ntp => ?_⟩
      have ndt : d ≠ tp := fun z => by rw [← z, hd2] at ntp; cases ntp
      refine ⟨.ref tp, d, _, rfl, rfl, rfl, by rw [upd_ne ndt]; exact hd2, .inr ⟨tp, _, false, rfl, SqT.of upd_same, fun its hi => ?_, _, rfl, ?_⟩⟩
      · cases hi with
        | cons r1 hi =>
        cases hi with
        | cons r2 hi =>
        cases hi with
        | cons r3 hi =>
        cases hi
        cases r1
        cases r2
        cases r3
        exact T.kn_BadStep_BadCall_NotASet_NotASource
      · refine ⟨_, rfl, _, rfl, iteT ?_⟩
        refine ⟨_, rfl, rfl, rfl, d, _, .int (i : Nat), rfl, by rw [upd_ne ndt]; exact hd2, rfl, _, rfl, rfl, rfl, d, _, .int (j : Nat), rfl, by rw [upd_ne ndt]; exact hd2, rfl, (by rw [sizeLine_eq]; simp), fun q nq => ?_⟩
        exact k (.ref q) _ (same_new (same_new s2 ntp) nq) (.tup (SqT.of upd_same) (.cons (.int _) (.cons (.int _) .nil))) (.inr ⟨q, rfl⟩)
end
end Wn
set_option Elab.async false
set_option linter.all false
set_option maxRecDepth 100000
set_option maxHeartbeats 4000000
namespace Wn
open PySem PySem.Spec PyProof.Rows L2 Wl
section
variable {P : Program} {w : World} {K : PySem.W.Frag} {mg : Str → Option Value} {base : Heap}
/-! ### the law: plain part -/
theorem firstIn_snoc : ∀ (st : List PyData) (k : Nat) (d : PyData), firstIn k (st ++ [d]) = match firstIn k st with
    | some j => some j
    | none => if isStep d = true then none else some (k + st.length)
  | [], k, d => by simp [firstIn]
  | s :: r, k, d => by
    by_cases h : isStep s = true
    · simp only [List.cons_append, firstIn, h, if_true, firstIn_snoc r (k + 1) d, List.length_cons]
      cases firstIn (k + 1) r <;> simp only [] <;> split <;> simp_all <;> omega
    · simp [firstIn, h]
theorem firstBad_snoc : ∀ (l : List (List PyData)) (k : Nat) (st : List PyData), firstBad k (l ++ [st]) = match firstBad k l with
    | some p => some p
    | none => (firstIn 0 st).map fun j => (k + l.length, j)
  | [], k, st => by
    simp only [List.nil_append, firstBad, List.length_nil, Nat.add_zero]
    cases firstIn 0 st <;> rfl
  | s :: r, k, st => by
    simp only [List.cons_append, firstBad, firstBad_snoc r (k + 1) st, List.length_cons]
    cases firstIn 0 s with
    | some j => rfl
    | none =>
      simp only []
      cases firstBad (k + 1) r with
      | some p => rfl
      | none =>
        simp only []
        have e : k + 1 + r.length = k + (r.length + 1) := by omega
        rw [e]
theorem leftOf_snoc : ∀ (l : List (List PyData)) (st : List PyData), leftOf (l ++ [st]) (List.replicate (l.length + 1) 0) = leftOf l (List.replicate l.length 0) + st.length
  | [], st => by simp [leftOf]
  | s :: r, st => by
    have e := leftOf_snoc r st
    simp only [List.cons_append, List.length_cons, List.replicate_succ, leftOf] at e ⊢
    omega
/-- what is due, as the law keeps it -/
def DueV (K : PySem.W.Frag) (R : Hp) (v : V) : Option (Nat × Nat) → Prop
  | none => v = .non
  | some (i, j) => ∃ t, v = .ref t ∧ Dp K R (.ref t) (.tuple [.int (i : Nat), .int (j : Nat)])
theorem DueV.same {R R' : Hp} {v : V} {o : Option (Nat × Nat)} (h : DueV K R v o) (e : L2.Same R R') : DueV K R' v o := by
  cases o with
  | none => exact h
  | some ij =>
    obtain ⟨t, rfl, d⟩ := h
    exact ⟨t, rfl, dp_same e d⟩
/-- small steps -/
def StepsOk (ds : List PyData) : Prop := ds.length ≤ 4 ∧ ∀ d ∈ ds, Small d 3 1185
theorem steps_small {ds : List PyData} (h : StepsOk ds) : Small (.tuple ds) 4 4751 := (small_tup h.2).mono (Nat.le_refl _) (by have := h.1; omega)
theorem wk_small {ds : List PyData} (h : StepsOk ds) : Small (wk (.int 0, ds)) 5 9509 := by
  refine (small_tup (k := 4) (n := 4751) (ds := [.int 0, .tuple ds]) fun d hd => ?_).mono (Nat.le_refl _) (by simp)
  simp only [List.mem_cons, List.not_mem_nil, or_false] at hd
  rcases hd with rfl | rfl
  · exact ⟨rfl, rfl, Nat.zero_le _, Nat.le_trans (show (PyData.int 0).shown.length ≤ 30 by decide +kernel) (by decide)⟩
  · exact steps_small h
structure WsOk (ws : List (PyData × List PyData)) : Prop where
  len : ws.length ≤ 3
  ok : ∀ q ∈ ws, q.1 = .int 0 ∧ StepsOk q.2
theorem ws_small {ws : List (PyData × List PyData)} (h : WsOk ws) : Small (.list (ws.map wk)) 6 28535 := by
  refine (small_list (k := 5) (n := 9509) fun d hd => ?_).mono (Nat.le_refl _) (by have := h.len; rw [List.length_map]; omega)
  obtain ⟨q, hq, rfl⟩ := List.mem_map.mp hd
  obtain ⟨q1, q2⟩ := q
  obtain ⟨e, s⟩ := h.ok _ hq
  have e' : q1 = .int 0 := e
  subst e'
  exact wk_small s
theorem left_le : ∀ {ws : List (PyData × List PyData)}, (∀ q ∈ ws, StepsOk q.2) → leftOf (ws.map (·.2)) (List.replicate ws.length 0) ≤ 4 * ws.length
  | [], _ => by simp [leftOf]
  | q :: r, h => by
    have h1 := (h q List.mem_cons_self).1
    have h2 := left_le (ws := r) fun q hq => h q (List.mem_cons_of_mem _ hq)
    simp only [List.map_cons, List.length_cons, List.replicate_succ, leftOf] at h2 ⊢
    omega
end
end Wn
set_option Elab.async false
set_option linter.all false
set_option maxRecDepth 100000
set_option maxHeartbeats 4000000
namespace Wn
open PySem PySem.Spec PyProof.Rows L2 Wl
section
variable {P : Program} {w : World} {K : PySem.W.Frag} {mg : Str → Option Value} {base : Heap}
structure TurnSt (K : PySem.W.Frag) (R1 H3 : Hp) (b l : Addr) (i : Nat) (Hh : Hp) (dv : V) (many : Int) (R' : Hp) (ws : List (PyData × List PyData)) (wvs : List V) : Prop where
  g : Grow [b] R1 H3 R' Hh
  bag : BagAt Hh b
  lst : Hh l = some (.lst wvs)
  lfree : R' l = none
  dp : DpAll K R' wvs (ws.map wk)
  len : ws.length = i
  ok : ∀ q ∈ ws, q.1 = .int 0 ∧ StepsOk q.2
  due : DueV K R' dv (firstBad 0 (ws.map (·.2)))
  many : many = ((leftOf (ws.map (·.2)) (List.replicate ws.length 0) : Nat) : Int)
def dueAt (ws : List (PyData × List PyData)) (ds : List PyData) : Option (Nat × Nat) := match firstBad 0 (ws.map (·.2)) with
  | some p => some p
  | none => (firstIn 0 ds).map fun j => (ws.length, j)
structure PlaceSt (K : PySem.W.Frag) (R1 H3 : Hp) (b l sl : Addr) (ws : List (PyData × List PyData)) (wvs : List V) (j : Nat) (Hh : Hp) (R' : Hp) (ds : List PyData) (svs : List V) : Prop where
  g : Grow [b] R1 H3 R' Hh
  bag : BagAt Hh b
  lst : Hh l = some (.lst wvs)
  lfree : R' l = none
  dp : DpAll K R' wvs (ws.map wk)
  slst : Hh sl = some (.lst svs)
  sfree : R' sl = none
  sdp : DpAll K R' svs ds
  slen : ds.length = j
  sok : ∀ d ∈ ds, Small d 3 1185
theorem PlaceSt.add {R1 H3 Hh R' : Hp} {b l sl a : Addr} {ws : List (PyData × List PyData)} {wvs svs : List V} {ds : List PyData} {j : Nat} {o : HO} (st : PlaceSt K R1 H3 b l sl ws wvs j Hh R' ds svs) (n : Hh a = none) : PlaceSt K R1 H3 b l sl ws wvs j (upd Hh a o) (upd R' a o) ds svs := by
  have s1 : L2.Same R' (upd R' a o) := same_new (L2.Same.refl _) (st.g.rnone n)
  have ne : ∀ {c : Addr} {p : HO}, Hh c = some p → c ≠ a := fun h z => by rw [z, n] at h; cases h
  obtain ⟨x, y, hb⟩ := st.bag
  exact ⟨st.g.add n, ⟨x, y, by rw [upd_ne (ne hb)]; exact hb⟩, by rw [upd_ne (ne st.lst)]; exact st.lst, by rw [upd_ne (ne st.lst)]; exact st.lfree, dpAll_same s1 st.dp, by rw [upd_ne (ne st.slst)]; exact st.slst, by rw [upd_ne (ne st.slst)]; exact st.sfree, dpAll_same s1 st.sdp, st.slen, st.sok⟩
theorem dueAt_good {ws : List (PyData × List PyData)} {ds : List PyData} {d : PyData} (h : isStep d = true) : dueAt ws (ds ++ [d]) = dueAt ws ds := by
  unfold dueAt
  rw [firstIn_snoc]
  cases firstIn 0 ds with
  | some j => rfl
  | none => simp only [h, if_true]
theorem dueAt_some {ws : List (PyData × List PyData)} {ds : List PyData} {d : PyData} {p : Nat × Nat} (h : dueAt ws ds = some p) : dueAt ws (ds ++ [d]) = some p := by
  unfold dueAt at h ⊢
  cases e : firstBad 0 (ws.map (·.2)) with
  | some q => rw [e] at h; exact h
  | none =>
    rw [e] at h
    rw [firstIn_snoc]
    simp only [] at h ⊢
    cases e2 : firstIn 0 ds with
    | some j => rw [e2] at h; exact h
    | none => rw [e2] at h; cases h
theorem dueAt_bad {ws : List (PyData × List PyData)} {ds : List PyData} {d : PyData} (h : isStep d = false) (h2 : dueAt ws ds = none) : dueAt ws (ds ++ [d]) = some (ws.length, ds.length) := by
  unfold dueAt at h2 ⊢
  cases e : firstBad 0 (ws.map (·.2)) with
  | some q => rw [e] at h2; cases h2
  | none =>
    rw [e] at h2
    rw [firstIn_snoc]
    simp only [] at h2 ⊢
    cases e2 : firstIn 0 ds with
    | some j => rw [e2] at h2; cases h2
    | none => simp [h]
theorem dueAt_end {ws : List (PyData × List PyData)} {ds : List PyData} {p : PyData} : firstBad 0 ((ws ++ [(p, ds)]).map (·.2)) = dueAt ws ds := by
  rw [List.map_append, List.map_singleton, firstBad_snoc]
  unfold dueAt
  cases firstBad 0 (ws.map (·.2)) with
  | some q => rfl
  | none => simp
theorem dueAt_start {ws : List (PyData × List PyData)} : dueAt ws [] = firstBad 0 (ws.map (·.2)) := by
  unfold dueAt
  cases firstBad 0 (ws.map (·.2)) <;> rfl
theorem wvs_all {ws : List (PyData × List PyData)} (h : ∀ q ∈ ws, q.1 = .int 0 ∧ StepsOk q.2) : ∀ q ∈ ws, StepsOk q.2 := fun q hq => (h q hq).2
theorem box_del {H : Hp} {b y : Addr} {xs : List V} (hb : H b = some (.lst xs)) (bx : Box H y) : Box (del H b) y := by
  obtain ⟨d1, td, t0, th, pl, nl, q⟩ := bx
  have ne : ∀ {a : Addr} {o : HO}, H a = some o → (∀ ys, o ≠ .lst ys) → del H b a = some o := fun {a o} h z => by
    rw [del_ne (fun e => by rw [e, hb] at h; exact z _ (Option.some.inj h).symm)]
    exact h
  exact ⟨d1, td, t0, th, pl, nl, q.pl0, q.pl1, q.nl0, q.nl1, ne q.ins (fun _ z => nomatch z), ne q.tabs (fun _ z => nomatch z), ne q.tab0 (fun _ z => nomatch z), ne q.thgs (fun _ z => nomatch z)⟩
theorem same_del (H : Hp) (b : Addr) : L2.Same (del H b) H := fun a o h => by
  by_cases z : a = b
  · rw [z, del_same] at h; cases h
  · rw [del_ne z] at h; exact h
theorem grow_up {L : List Addr} {R H R1 H1 H2 : Hp} (g : Grow L R H R1 H1) (s : L2.Same H1 H2) : Grow L R H R1 H2 :=
  ⟨g.same, g.sub.trans s, fun b o hb q => s _ _ (g.keep b o hb q), fun b q => by
    cases e : H1 b with
    | none => exact absurd e (g.live b q)
    | some o => rw [s _ _ e]; exact (fun z => nomatch z), g.new⟩
theorem firstIn_lt : ∀ {st : List PyData} {k j : Nat}, firstIn k st = some j → j < k + st.length
  | [], _, _, h => nomatch h
  | d :: r, k, j, h => by
    unfold firstIn at h
    rw [List.length_cons]
    split at h
    · have := firstIn_lt h
      omega
    · have := Option.some.inj h
      omega
theorem firstBad_lt : ∀ {l : List (List PyData)} {k i j : Nat}, (∀ st ∈ l, st.length ≤ 4) → firstBad k l = some (i, j) → i < k + l.length ∧ j < 4
  | [], _, _, _, _, h => nomatch h
  | st :: r, k, i, j, hl, h => by
    unfold firstBad at h
    rw [List.length_cons]
    cases e : firstIn 0 st with
    | some q =>
      rw [e] at h
      have h2 := Prod.mk.inj (Option.some.inj h)
      have := firstIn_lt e
      have := hl st List.mem_cons_self
      omega
    | none =>
      rw [e] at h
      have := firstBad_lt (fun st hs => hl st (List.mem_cons_of_mem _ hs)) h
      omega
theorem int_small : ∀ n : Nat, n ≤ 12 → Small (.int (n : Nat)) 0 5 := by
  have h : ∀ n : Fin 13, ((PyData.int (n.val : Nat)).showable && !(PyData.int (n.val : Nat)).hasDict && decide ((PyData.int (n.val : Nat)).depth ≤ 0) && decide ((PyData.int (n.val : Nat)).shown.length ≤ 5)) = true := by decide +kernel
  intro n hn
  have := h ⟨n, by omega⟩
  simp only [Bool.and_eq_true, decide_eq_true_eq, Bool.not_eq_true'] at this
  exact ⟨this.1.1.1, this.1.1.2, this.1.2, this.2⟩
theorem due_small {ws : List (PyData × List PyData)} (h : WsOk ws) : Small (dueOf ws) 1 30 := by
  unfold dueOf
  cases e : firstBad 0 (ws.map (·.2)) with
  | none =>
    have := left_le (wvs_all h.ok)
    have := h.len
    exact (int_small _ (by omega)).mono (by decide) (by decide)
  | some ij =>
    obtain ⟨i, j⟩ := ij
    have hb := firstBad_lt (fun st hs => by
      obtain ⟨q, hq, rfl⟩ := List.mem_map.mp hs
      exact (h.ok q hq).2.1) e
    rw [List.length_map] at hb
    have := h.len
    refine (small_tup (k := 0) (n := 5) fun d hd => ?_).mono (by decide) (by simp)
    simp only [List.mem_cons, List.not_mem_nil, or_false] at hd
    rcases hd with rfl | rfl
    · exact int_small _ (by omega)
    · exact int_small _ (by omega)
theorem ne_no {z : Str} {p q : Prop} (k : q) : if (!decide (V.str z = V.str z)) = true then p else q := by
  rw [decide_eq_true rfl]
  exact iteF k
abbrev N_law : List Str := ["_law_script", "_law_at", "_law_bag_here", "_law_box", "_law_turn", "_law_workers", "_law_due", "_law_many", "_law_worker", "_law_steps", "_law_place", "_law_step_here", "_law_is_good", "_law_shown"]
theorem sc_law : FnScope N_law ["_law_script"] (defScope s_law) := ⟨rfl, rfl, rfl, by decide +kernel, rfl, by decide +kernel, by decide +kernel⟩
def sp_law (K : PySem.W.Frag) : Sp := fun vs H Q _ => ∃ (S : Addr) (ns : List Int), vs = [.ref S] ∧ SqL K H S (ns.map V.int) ∧ ns.length ≤ 1000 ∧ ∀ H', L2.Same H H' → Q (.bl true) H'
theorem ok_law (T : Txt w K mg) : FnG P w K mg base 13 a_law (sp_law K) := by
  obtain ⟨fd, F⟩ := T.f_law
  obtain ⟨fB, FB⟩ := T.f__law_bag
  obtain ⟨fT, FT⟩ := T.f__law_take
  obtain ⟨fS, FS⟩ := T.f__law_step
  obtain ⟨fF, FF⟩ := T.f__law_found
  obtain ⟨fI, FI⟩ := T.f_System_init
  obtain ⟨mv, kb⟩ := kb_Sys0 FI
  have nd := sc_law.nd
  refine fnG_of (dvs := []) (ps := ["_law_script"]) F sc_law ⟨[], .nil, F.bindsN fun _ _ _ _ _ _ us hl => match us, hl with | [_], _ => rfl⟩ (fun vs H Q E h => ?_) (fun cdv A outer s H vs Q E hg hr h => ?_)
  · obtain ⟨S, ns, rfl, _⟩ := h
    rfl
  · obtain ⟨S, ns, rfl, hS, hn, k⟩ := h
    have cB := (ok_bag (P := P) (base := base) T).callR (X := cxOf (L2.CX P w) P w K mg base N_law d_law.qual d_law.scope d_law.a cdv A outer s H E) hg (hr.mono (by omega)) pass
    have cT := (ok_take (P := P) (base := base) T).callR (X := cxOf (L2.CX P w) P w K mg base N_law d_law.qual d_law.scope d_law.a cdv A outer s H E) hg (hr.mono (by omega)) pass
    have cS := (ok_step (P := P) (base := base) T).callR (X := cxOf (L2.CX P w) P w K mg base N_law d_law.qual d_law.scope d_law.a cdv A outer s H E) hg (hr.mono (by omega)) pass
    have cF := (ok_found (P := P) (base := base) T).callR (X := cxOf (L2.CX P w) P w K mg base N_law d_law.qual d_law.scope d_law.a cdv A outer s H E) hg (hr.mono (by omega)) pass
    have cR := call_reprD (X := cxOf (L2.CX P w) P w K mg base N_law d_law.qual d_law.scope d_law.a cdv A outer s H E) hg (room_u70 hr)
    refine ⟨_, pss_cons (ps_for (passes_of rfl) rfl (pi_range1 rfl T.z_range (pa_cons (pe_callB (call_max2 rfl) rfl T.z_max bt_max (pa_cons pe_int (pa_cons (pe_callB (call_min2 rfl) rfl T.z_min bt_min (pa_cons pe_int (pa_cons (pe_callB call_len_seq rfl T.z_len bt_len (pa_cons (pv 0) pa_nil)) pa_nil))) pa_nil))) pa_nil)) (pg_name (i := 1) nd rfl (.inl rfl))
        (pss_cons (ps_par (i := 2) (j := 3) rfl nd rfl rfl (by decide) rfl rfl (pa_cons (pe_gf cB rfl T.g__law_bag FB.kp (pa_cons (pv 0) (pa_cons (pv 1) pa_nil))) (pa_cons (pe_mkK0 T.k_System (ok_System_init T FI) hg (hr.mono (by omega)) rfl T.g_System kb pass pk_nil) pa_nil)) (by rfl))
        (pss_one (ps_for (passes_of rfl) rfl (pi_range1 rfl T.z_range (pa_cons pe_int pa_nil)) (pg_name (i := 4) nd rfl (.inl rfl))
          (pss_cons (ps_par3 (i := 5) (j := 6) (l := 7) rfl nd rfl rfl rfl (by decide) (by decide) (by decide) rfl rfl rfl (pa_cons (pe_lst pa_nil) (pa_cons pe_non (pa_cons pe_int pa_nil))) (by rfl))
          (pss_cons (ps_for (passes_of rfl) rfl (pi_range1 rfl T.z_range (pa_cons (pe_op op_add pe_int (pe_gf cT rfl T.g__law_take FT.kp (pa_cons (pv 2) (pa_cons pe_int pa_nil)))) pa_nil)) (pg_name (i := 8) nd rfl (.inl rfl))
            (pss_cons (ps_set (i := 9) nd rfl (.inl rfl) (pe_lst pa_nil) rfl)
            (pss_cons (ps_for (passes_of rfl) rfl (pi_range1 rfl T.z_range (pa_cons (pe_gf cT rfl T.g__law_take FT.kp (pa_cons (pv 2) (pa_cons pe_int pa_nil))) pa_nil)) (pg_name (i := 10) nd rfl (.inl rfl))
              (pss_cons (ps_asg (pe_gf cS rfl T.g__law_step FS.kp (pa_cons (pv 2) pa_nil)) (pg_tup rfl (pgs_cons (pg_name (i := 11) nd rfl (.inl rfl)) (pgs_cons (pg_name (i := 12) nd rfl (.inl rfl)) pgs_nil))))
              (pss_cons (ps_expr (pe_bm PySem.F.plainAttrs_list PySem.F.slot_list_append PySem.F.type_list_append mt_append (pv 9) (pa_cons (pv 11) pa_nil)))
              (pss_one (ps_if (PW.pt (pw_and (pt_not (pt_val (pv 12))) (pw_and1 (pt_cmpR op_isN (pv 6) pe_non (nomark _))))) (pss_one (ps_set (i := 6) nd rfl (.inl rfl) (pe_tup (pa_cons (pv 8) (pa_cons (pv 10) pa_nil))) rfl)) pss_nil)))))
            (pss_cons (ps_set (i := 7) nd rfl (.inl rfl) (pe_op op_add (pv 7) (pe_callB call_len_seq rfl T.z_len bt_len (pa_cons (pv 9) pa_nil))) rfl)
            (pss_one (ps_expr (pe_bm PySem.F.plainAttrs_list PySem.F.slot_list_append PySem.F.type_list_append mt_append (pv 5) (pa_cons (pe_tup (pa_cons pe_int (pa_cons (pe_callTy call_tuple_of rfl T.z_tuple bt_tuple (pa_cons (pv 9) pa_nil)) pa_nil))) pa_nil))))))))
          (pss_cons (ps_set (i := 13) nd rfl (.inl rfl) (pe_callB cR rfl T.z_repr bt_repr (pa_cons (pv 5) pa_nil)) rfl)
          (pss_one (ps_if (PW.pt (pw_or (pt_cmpR op_ne (pe_callB cR rfl T.z_repr bt_repr (pa_cons (pe_gf cF rfl T.g__law_found FF.kp (pa_cons (pv 3) (pa_cons (pv 5) pa_nil))) pa_nil)) (pe_callB cR rfl T.z_repr bt_repr (pa_cons (pe_ifExp (pt_cmpR op_isN (pv 6) pe_non (nomark _)) (pv 7) (pv 6)) pa_nil)) (nomark _))
              (pw_or1 (pt_cmpR op_ne (pe_callB cR rfl T.z_repr bt_repr (pa_cons (pv 5) pa_nil)) (pv 13) (nomark _))))) (pss_one (ps_ret pe_bl)) pss_nil))))))))) (pss_one (ps_ret pe_bl)), ?_⟩
    have hlen : ((ns.map V.int).length : Int) ≤ 1000 := by rw [List.length_map]; omega
    refine ⟨_, rfl, S, _, rfl, .inl hS, 5, _, rfl, 2, _, rfl, ?_⟩
    refine ⟨_, rfl, ?_, ?_, ?_⟩
    · split <;> (try split) <;> omega
    · split <;> (try split) <;> omega
    generalize Int.toNat _ = nAt
    refine for_range (lo := 0) (n := nAt) (fun i σ Hh => (∃ v1 v2 v3 v4 v5 v6 v7 v8 v9 v10 v11 v12 v13, σ = [some (.ref S), v1, v2, v3, v4, v5, v6, v7, v8, v9, v10, v11, v12, v13]) ∧ L2.Same H Hh) ⟨⟨_, _, _, _, _, _, _, _, _, _, _, _, _, rfl⟩, L2.Same.refl _⟩ (fun i σ Hh hi q => ?_) (fun σ Hh q => ?_)
    case refine_2 =>
      obtain ⟨⟨_, _, _, _, _, _, _, _, _, _, _, _, _, rfl⟩, s1⟩ := q
      exact k _ s1
    obtain ⟨⟨v1, v2, v3, v4, v5, v6, v7, v8, v9, v10, v11, v12, v13, rfl⟩, s1⟩ := q
    clear hlen
    -- the bag and the system
    refine ⟨_, rfl, _, rfl, ?_⟩
    refine ⟨S, ns, i, by rw [Int.zero_add], s1.seq hS, fun b H1 sb nb hB => ?_⟩
    refine ⟨rfl, rfl, fun y dy ny ndy hne => ⟨y, dy, 4, 8, rfl, by decide, by decide, by decide, by decide, upd_same, fun H2 keep bx => ⟨rfl, _, _, rfl, ?_⟩⟩⟩
    have s2 : L2.Same H1 H2 := fun c o q => keep c o (fun z => by rw [z, ny] at q; cases q) (by rw [upd_ne (fun z => by rw [z, ny] at q; cases q), upd_ne (fun z => by rw [z, ndy] at q; cases q)]; exact q)
    obtain ⟨x0, y0, hb1⟩ := hB
    have hb2 : H2 b = some (.lst [.int x0, .int y0]) := s2 _ _ hb1
    have bx0 : Box (del H2 b) y := box_del hb2 bx
    have sH : L2.Same H (del H2 b) := fun c o q => by
      have q1 := s1 _ _ q
      have ne : c ≠ b := fun z => by rw [z, nb] at q1; cases q1
      rw [del_ne ne]
      exact s2 _ _ (sb _ _ q1)
    have r0 : del H2 b b = none := del_same
    have sub0 := same_del H2 b
    generalize del H2 b = R0 at bx0 sH r0 sub0
    have hB2 : BagAt H2 b := ⟨_, _, hb2⟩
    clear hb1 hb2 keep bx s2 sb nb ny ndy hne s1
    -- twenty turns
    refine ⟨20, rfl, by decide, by decide, for_range (lo := 0) (n := 20) (fun i σ Hh => (∃ v1 v4 v5 v6 v7 v8 v9 v10 v11 v12 v13, σ = [some (.ref S), v1, some (.ref b), some (.ref y), v4, v5, v6, v7, v8, v9, v10, v11, v12, v13]) ∧ ∃ R', Grow [b] R0 H2 R' Hh ∧ BagAt Hh b) ⟨⟨_, _, _, _, _, _, _, _, _, _, _, rfl⟩, R0, Grow.refl sub0, hB2⟩ (fun t σ Ht ht q => ?_) (fun σ Ht q => ?_)⟩
    case refine_2 =>
      obtain ⟨⟨_, _, _, _, _, _, _, _, _, _, _, rfl⟩, R', g, _⟩ := q
      exact ⟨⟨_, _, _, _, _, _, _, _, _, _, _, _, _, rfl⟩, (sH.trans g.same).trans g.sub⟩
    obtain ⟨⟨v1, v4, v5, v6, v7, v8, v9, v10, v11, v12, v13, rfl⟩, R1, g1, hB1⟩ := q
    have r1b : R1 b = none := by obtain ⟨_, _, z⟩ := hB2; exact g1.rcell z r0
    have bx1 := bx0.same g1.same
    refine ⟨(by rw [sizeLine_eq]; simp), fun l nl => ⟨_, _, _, rfl, ?_⟩⟩
    have G0 : Grow [b] R1 Ht R1 (upd Ht l (.lst [])) := (Grow.refl g1.sub).cellN nl
    have r1l : R1 l = none := Grow.rnone (Grow.refl (L := [b]) g1.sub) nl
    have lb : l ≠ b := fun z => by obtain ⟨_, _, q⟩ := hB1; rw [z, q] at nl; cases nl
    have hB1' : BagAt (upd Ht l (.lst [])) b := by obtain ⟨x1, y1, q⟩ := hB1; exact ⟨x1, y1, by rw [upd_ne (Ne.symm lb)]; exact q⟩
    -- the workers
    refine ⟨_, rfl, b, 3, rfl, hB1', by decide, by decide, fun n x1 y1 hn3 => ⟨1, _, rfl, rfl, _, rfl, by omega, by omega, ?_⟩⟩
    have hnw : (1 + (n : Int)).toNat ≤ 3 := by omega
    generalize (1 + (n : Int)).toNat = nw at hnw
    have G1 := G0.set (a := b) (o := .lst [.int x1, .int y1]) r1b (.inl (by simp))
    refine for_range (lo := 0) (n := nw) (fun i σ Hh => ∃ (v1 v4 v8 v9 v10 v11 v12 v13 : Option V) (dv : V) (many : Int) (R' : Hp) (ws : List (PyData × List PyData)) (wvs : List V), σ = [some (.ref S), v1, some (.ref b), some (.ref y), v4, some (.ref l), some dv, some (.int many), v8, v9, v10, v11, v12, v13] ∧ TurnSt K R1 Ht b l i Hh dv many R' ws wvs)
      ⟨_, _, _, _, _, _, _, _, _, _, R1, [], [], rfl, ⟨G1, ⟨_, _, upd_same⟩, by rw [upd_ne lb, upd_same], r1l, .nil, rfl, (fun _ z => nomatch z), rfl, rfl⟩⟩ (fun iw σ Hw hiw q => ?_) (fun σ Hw q => ?_)
    case refine_1 =>
      obtain ⟨v1, v4, v8, v9, v10, v11, v12, v13, dv, many, R', ws, wvs, rfl, st⟩ := q
      refine ⟨(by rw [sizeLine_eq]; simp), fun sl nsl => ?_⟩
      have rb' : R' b = none := by obtain ⟨_, _, z⟩ := hB1; exact st.g.rcell z r1b
      have lsl : l ≠ sl := fun z => by rw [← z, st.lst] at nsl; cases nsl
      have bsl : b ≠ sl := fun z => by obtain ⟨_, _, q⟩ := st.bag; rw [← z, q] at nsl; cases nsl
      have hBs : BagAt (upd Hw sl (.lst [])) b := by obtain ⟨x1, y1, q⟩ := st.bag; exact ⟨x1, y1, by rw [upd_ne bsl]; exact q⟩
      refine ⟨_, rfl, b, 5, rfl, hBs, by decide, by decide, fun np x2 y2 hnp => ⟨_, rfl, by omega, by omega, ?_⟩⟩
      have hnq : (np : Int).toNat ≤ 4 := by omega
      generalize (np : Int).toNat = nq at hnq
      have G2 := (st.g.cellN (o := .lst []) nsl).set (a := b) (o := .lst [.int x2, .int y2]) rb' (.inl (by simp))
      refine for_range (lo := 0) (n := nq) (fun j σ Hh => ∃ (v10 v11 v12 : Option V) (dv : V) (R2 : Hp) (ds : List PyData) (svs : List V), σ = [some (.ref S), v1, some (.ref b), some (.ref y), v4, some (.ref l), some dv, some (.int many), some (.int (0 + (iw : Int))), some (.ref sl), v10, v11, v12, v13] ∧ PlaceSt K R1 Ht b l sl ws wvs j Hh R2 ds svs ∧ DueV K R2 dv (dueAt ws ds))
        ⟨_, _, _, _, R', [], [], rfl, ⟨G2, ⟨_, _, upd_same⟩, by rw [upd_ne lb, upd_ne lsl]; exact st.lst, st.lfree, st.dp, by rw [upd_ne (Ne.symm bsl), upd_same], st.g.rnone nsl, .nil, rfl, (fun _ z => nomatch z)⟩, by rw [dueAt_start]; exact st.due⟩ (fun j σ Hp_ hj q => ?_) (fun σ Hp_ q => ?_)
      case refine_1 =>
        obtain ⟨v10, v11, v12, dv, R2, ds, svs, rfl, sp, hdue⟩ := q
        have r2b : R2 b = none := by obtain ⟨_, _, z⟩ := hB1; exact sp.g.rcell z r1b
        refine ⟨_, rfl, b, R2, rfl, sp.bag, sp.g.sub, r2b, fun v d good R3 H3 g3 bag3 dp3 hst hsm => ?_⟩
        obtain ⟨a, xs, rfl, hsq, hall⟩ := dp_tup dp3
        obtain ⟨u1, rfl, hd⟩ : ∃ u1, xs = [u1, .bl good] ∧ Dp K R3 u1 d := by
          cases hall with
          | cons h1 h2 =>
            cases h2 with
            | cons h2 h3 =>
              cases h2
              cases h3
              exact ⟨_, rfl, h1⟩
        have hs3 := g3.cell sp.slst (by simpa using Ne.symm bsl)
        have hl3 := g3.cell sp.lst (by simpa using lb)
        have hlen : ds.length = svs.length := (dpAll_length sp.sdp).symm
        have hj4 : ds.length < 4 := by rw [sp.slen]; omega
        refine ⟨a, _, rfl, sqt_same g3.sub hsq, rfl, _, _, rfl, _, _, rfl, rfl, ?_⟩
        refine ⟨_, rfl, .inl ⟨rfl, _, SqL.of hs3⟩, _, rfl, sl, _, _, rfl, rfl, hs3, by rw [sizeLine_eq]; omega, ?_⟩
        have r3s := g3.rcell sp.slst sp.sfree
        have r3l := g3.rcell sp.lst sp.lfree
        have r3b := (by obtain ⟨_, _, z⟩ := sp.bag; exact g3.rcell z r2b : R3 b = none)
        have G3 := (sp.g.trans g3).set (a := sl) (o := .lst (svs ++ [u1])) r3s (.inr (by
          cases e : Ht sl with
          | none => rfl
          | some o => exact absurd nsl (st.g.live sl (by rw [e]; exact fun z => nomatch z))))
        have bag4 : BagAt (upd H3 sl (.lst (svs ++ [u1]))) b := by obtain ⟨x1, y1, q⟩ := bag3; exact ⟨x1, y1, by rw [upd_ne bsl]; exact q⟩
        have base4 : PlaceSt K R1 Ht b l sl ws wvs (j + 1) (upd H3 sl (.lst (svs ++ [u1]))) R3 (ds ++ [d]) (svs ++ [u1]) :=
          ⟨G3, bag4, by rw [upd_ne lsl]; exact hl3, r3l, dpAll_same g3.same sp.dp, upd_same, r3s, dpAll_snoc (dpAll_same g3.same sp.sdp) hd, by rw [List.length_append, sp.slen, List.length_singleton], fun e he => (List.mem_append.mp he).elim (sp.sok e) (fun z => by rw [List.mem_singleton.mp z]; exact hsm)⟩
        refine ⟨_, rfl, _, rfl, ?_⟩
        cases good with
        | true =>
          refine iteF (iteF ?_)
          exact ⟨_, _, _, _, _, _, _, rfl, base4, by rw [dueAt_good hst]; exact hdue.same g3.same⟩
        | false =>
          refine iteT ⟨_, rfl, rfl, _, rfl, ?_⟩
          cases e : dueAt ws ds with
          | some p =>
            rw [e] at hdue
            obtain ⟨p1, p2⟩ := p
            obtain ⟨t', rfl, hdt⟩ := hdue
            refine iteF ?_
            exact ⟨_, _, _, _, _, _, _, rfl, base4, by rw [dueAt_some e]; exact ⟨t', rfl, dp_same g3.same hdt⟩⟩
          | none =>
            rw [e] at hdue
            have hdue' : dv = .non := hdue
            subst hdue'
            refine iteT ?_
            refine ⟨_, rfl, _, rfl, (by rw [sizeLine_eq]; simp), fun tp ntp => ?_⟩
            refine ⟨_, _, _, _, _, _, _, rfl, base4.add ntp, ?_⟩
            rw [dueAt_bad hst e]
            refine ⟨tp, rfl, .tup (SqT.of upd_same) (.cons ?_ (.cons ?_ .nil))⟩
            · rw [Int.zero_add, st.len]
              exact .int _
            · rw [Int.zero_add (j : Int), sp.slen]
              exact .int _
      case refine_2 =>
        obtain ⟨v10, v11, v12, dv, R2, ds, svs, rfl, sp, hdue⟩ := q
        refine ⟨_, rfl, _, rfl, sl, _, rfl, .inl (SqL.of sp.slst), _, _, rfl, rfl, ?_⟩
        refine ⟨_, rfl, .inl ⟨rfl, _, SqL.of sp.lst⟩, _, rfl, sl, _, rfl, .inl ⟨SqL.of sp.slst, fun tq ntq => ⟨(by rw [sizeLine_eq]; simp), fun tw ntw => ?_⟩⟩⟩
        have sp2 := (sp.add (o := .tup svs) ntq).add (o := .tup [.int 0, .ref tq]) ntw
        have hlw : wvs.length = ws.length := by rw [dpAll_length st.dp, List.length_map]
        refine ⟨l, _, _, rfl, rfl, sp2.lst, by rw [sizeLine_eq, hlw, st.len]; omega, ?_⟩
        have G4 := sp2.g.set (a := l) (o := .lst (wvs ++ [.ref tw])) sp2.lfree (.inr nl)
        have dtq : Dp K (upd (upd R2 tq (.tup svs)) tw (.tup [.int 0, .ref tq])) (.ref tq) (.tuple ds) := by
          have e : tq ≠ tw := fun z => by rw [← z, upd_same] at ntw; cases ntw
          exact .tup (SqT.of (by rw [upd_ne e, upd_same])) sp2.sdp
        have hds : StepsOk ds := ⟨by rw [sp.slen]; omega, sp.sok⟩
        refine ⟨_, _, _, _, _, _, _, _, _, _, _, ws ++ [(.int 0, ds)], wvs ++ [.ref tw], rfl, ⟨G4, ?_, upd_same, sp2.lfree, ?_, by rw [List.length_append, st.len, List.length_singleton], ?_, ?_, ?_⟩⟩
        · obtain ⟨x, y, q⟩ := sp2.bag
          exact ⟨x, y, by rw [upd_ne (Ne.symm lb)]; exact q⟩
        · rw [List.map_append]
          exact dpAll_append sp2.dp (.cons (.tup (SqT.of upd_same) (.cons (.int 0) (.cons dtq .nil))) .nil)
        · intro q hq
          rcases List.mem_append.mp hq with z | z
          · exact st.ok q z
          · rw [List.mem_singleton.mp z]
            exact ⟨rfl, hds⟩
        · rw [dueAt_end]
          exact hdue.same ((same_new (L2.Same.refl _) (sp.g.rnone ntq)).trans (same_new (L2.Same.refl _) ((sp.add ntq).g.rnone ntw)))
        · have e := leftOf_snoc (ws.map (·.2)) ds
          rw [List.length_map] at e
          rw [List.map_append, List.map_singleton, List.length_append, List.length_singleton, e, st.many]
          have := dpAll_length sp.sdp
          omega
    case refine_2 =>
      obtain ⟨v1, v4, v8, v9, v10, v11, v12, v13, dv, many, R', ws, wvs, rfl, st⟩ := q
      have hws : WsOk ws := ⟨by rw [st.len]; omega, st.ok⟩
      have dl : Dp K Hw (.ref l) (.list (ws.map wk)) := .lst (SqL.of st.lst) (dpAll_same st.g.sub st.dp)
      have sz := (ws_small hws).mono (show 6 ≤ 60 by decide) (show 28535 ≤ sizeLine by decide)
      refine ⟨_, rfl, _, _, rfl, dl, sz, .inr ⟨l, rfl⟩, ?_⟩
      have hll := left_le (wvs_all st.ok)
      refine ⟨_, rfl, _, rfl, y, l, wvs, ws, rfl, (bx1.same st.g.same).same st.g.sub, SqL.of st.lst, dpAll_same st.g.sub st.dp, by rw [dpAll_length st.dp, List.length_map]; exact hws.len, by have := hws.len; omega, fun v H' s3 dv3 kd => ?_⟩
      have dsm := (due_small hws).mono (show 1 ≤ 60 by decide) (show 30 ≤ sizeLine by decide)
      refine ⟨v, dueOf ws, rfl, dv3, dsm, kd, ?_⟩
      have dl4 : Dp K H' (.ref l) (.list (ws.map wk)) := dp_same s3 dl
      have bag4 : BagAt H' b := by obtain ⟨x, y, q⟩ := st.bag; exact ⟨x, y, s3 _ _ q⟩
      refine ⟨_, rfl, rfl, _, rfl, ?_⟩
      have hdue := st.due
      unfold dueOf at dsm ⊢
      cases e : firstBad 0 (ws.map (·.2)) with
      | none =>
        rw [e] at hdue dsm
        have hdue' : dv = .non := hdue
        subst hdue'
        refine iteT ⟨_, rfl, _, _, rfl, .int _, by rw [st.many]; exact dsm, .inl ⟨_, rfl⟩, ?_⟩
        rw [st.many]
        refine ⟨rfl, _, rfl, ne_no ?_⟩
        refine ⟨_, rfl, _, _, rfl, dl4, sz, .inr ⟨l, rfl⟩, _, rfl, rfl, _, rfl, ne_no ?_⟩
        exact ⟨⟨_, _, _, _, _, _, _, _, _, _, _, rfl⟩, _, g1.trans (grow_up st.g s3), bag4⟩
      | some ij =>
        obtain ⟨i', j'⟩ := ij
        rw [e] at hdue dsm
        obtain ⟨t', rfl, hdt⟩ := hdue
        refine iteF ⟨_, rfl, _, _, rfl, dp_same (st.g.sub.trans s3) hdt, dsm, .inr ⟨_, rfl⟩, ?_⟩
        refine ⟨rfl, _, rfl, ne_no ?_⟩
        refine ⟨_, rfl, _, _, rfl, dl4, sz, .inr ⟨l, rfl⟩, _, rfl, rfl, _, rfl, ne_no ?_⟩
        exact ⟨⟨_, _, _, _, _, _, _, _, _, _, _, rfl⟩, _, g1.trans (grow_up st.g s3), bag4⟩
end
end Wn
set_option Elab.async false
set_option linter.all false
set_option maxRecDepth 100000
set_option maxHeartbeats 2000000
/-! the end of a law whose def keeps a promise FnG (no guarded code runs at the caller) -/
namespace Wl
open PySem PySem.Spec PyProof.Rows L2
/-- the heap that tells nothing but the script at a -/
def oneH (a : Addr) (o : Obj) (xs : List V) : Hp := fun b => if b = a then some (.frz o (.lst xs)) else none
section
variable {P : Program} {w : World} {K : PySem.W.Frag} {mg mb : Str → Option Value} {k : Nat} {fa a : Addr} {sp : Sp} {s1 : Shared}
abbrev Ended (s1 : Shared) : Result → Shared → Prop := fun r s' => r = .ok (.ret (.bool true)) ∧ OldK s1.heap s'.heap ∧ s'.os = s1.os ∧ AllBare s'.gens
theorem core_G {vs : List Value} {H : Hp} (KX : K.In s1.heap) (hns : s1.heap.Ns mainGlobals mg) (hb : s1.heap.Ns builtinsNs mb) (hbb : ∀ x : Str, x ≠ "__name__" → mb x = bootBuiltins x) (hlim : s1.heap.NoLimit) (hg : s1.gens = #[])
    (ha : s1.heap.get? a = some { cls := .type "list", data := .seq vs.toArray }) (hr : Room k callerA) (F : ∀ base : Heap, FnG P w K mg base k fa sp)
    (hO : ∀ b u, H b = some u → b = a ∧ ∃ o xs, u = .frz o (.lst xs)) (hok : HOk P w H s1.heap) (hK : H a ≠ none → K.lookup a = none) (hsp : sp [.ref a] H (fun v _ => v = .bl true) fun _ _ _ => False) :
    codeAny (model P w) callerA (.call (.ref fa) ⟨[.ref a], []⟩) (Ended s1) s1 := by
  have at_a : ∀ {b : Addr}, H b ≠ none → b = a := fun {b} z => by
    obtain ⟨u, e⟩ := Option.ne_none_iff_exists'.mp z
    exact (hO b u e).1
  -- what is no list stays in the base
  have stays : ∀ {b : Addr} {o : Obj}, s1.heap.get? b = some o → (b = a → False) → (hidT s1.heap H).get? b = some o := fun {b o} e n => hidT_get e (by
    cases q : H b with
    | none => rfl
    | some u => exact (n (hO b u q).1).elim)
  have ns : ∀ {b : Addr} {m : Str → Option Value}, s1.heap.Ns b m → (hidT s1.heap H).Ns b m := fun {b m} ⟨o, es, ep, e, d, r⟩ => ⟨o, es, ep, stays e (fun z => by
    rw [z, ha] at e
    obtain rfl := Option.some.inj e
    exact nomatch (show Data.seq vs.toArray _ = Data.dict es ep from d)), d, r⟩
  have inK : K.In (hidT s1.heap H) := fun b o e => by
    cases q : H b with
    | none => exact hidT_get (KX b o e) q
    | some u =>
      obtain rfl := (hO b u q).1
      rw [hK (by rw [q]; exact fun z => nomatch z)] at e
      cases e
  have mod : Mod K mg (hidT s1.heap H) := ⟨inK, ns hns, ⟨mb, ns hb, hbb⟩, let ⟨mc, h1, h2⟩ := hlim; ⟨mc, ns h1, h2⟩⟩
  have env : Env0 P w K mg (hidT s1.heap H) callerA [] s1 H := ⟨rfl, mod, fun b o e => of_hidT e, Nat.le_of_eq (hidT_size _ _), trivial, fun b hb => (List.not_mem_nil hb).elim, hok, .of_eq hg⟩
  refine codeAny_mono (F _ callerA [] s1 H [.ref a] [.ref a] _ _ rfl hr env (.cons rfl .nil) hsp) fun r s' h => ?_
  cases r with
  | error e =>
    obtain ⟨_, _, _, _, _, _, _, _, _, _, _, _, z⟩ := h
    exact z.elim
  | ok fl =>
    cases fl with
    | ret u =>
      obtain ⟨v, H', os, bare, un, hok', rv, q⟩ := h
      obtain rfl : v = .bl true := q
      obtain rfl : u = Value.bool true := rv
      refine ⟨rfl, OldK.of_keep fun b o e => ?_, os, bare⟩
      cases q : H b with
      | none => exact un.keep b o e q (fun z => (List.not_mem_nil z).elim) (by simp)
      | some u =>
        obtain ⟨_, ob, xs, rfl⟩ := hO b u q
        have e1 := (hok b _ q).1
        rw [e] at e1
        obtain rfl := Option.some.inj e1
        exact (hok' b _ (un.frzs b o _ q)).1
    | next => exact False.elim h
    | brk => exact False.elim h
    | cont => exact False.elim h
theorem law_callG {vs : List Value} {ns : List Int} (KX : K.In s1.heap) (hns : s1.heap.Ns mainGlobals mg) (hb : s1.heap.Ns builtinsNs mb) (hbb : ∀ x : Str, x ≠ "__name__" → mb x = bootBuiltins x) (hlim : s1.heap.NoLimit) (hg : s1.gens = #[])
    (ha : s1.heap.get? a = some { cls := .type "list", data := .seq vs.toArray }) (hi : IntsAre vs ns) (hl : ns.length ≤ sizeLine) (hr : Room k callerA) (F : ∀ base : Heap, FnG P w K mg base k fa sp)
    (hsp : ∀ H : Hp, SqL K H a (ns.map V.int) → sp [.ref a] H (fun v _ => v = .bl true) fun _ _ _ => False) :
    codeAny (model P w) callerA (.call (.ref fa) ⟨[.ref a], []⟩) (Ended s1) s1 := by
  have rv := vals_ints hi
  cases hk : K.lookup a with
  | some o =>
    have e := KX a o hk
    rw [ha] at e
    obtain rfl := Option.some.inj e
    exact core_G (H := fun _ => none) KX hns hb hbb hlim hg ha hr F (fun b u z => nomatch z) (fun b u z => nomatch z) (fun z => (z rfl).elim)
      (hsp _ (.inr ⟨_, vs.toArray, _, hk, rfl, rfl, rfl, by rw [List.size_toArray, hi.length]; exact hl, rv⟩))
  | none =>
    have at_ : oneH a { cls := .type "list", data := .seq vs.toArray } (ns.map V.int) a = some (.frz { cls := .type "list", data := .seq vs.toArray } (.lst (ns.map V.int))) := if_pos rfl
    have only : ∀ b u, oneH a { cls := .type "list", data := .seq vs.toArray } (ns.map V.int) b = some u → b = a ∧ u = .frz { cls := .type "list", data := .seq vs.toArray } (.lst (ns.map V.int)) := fun b u z => by
      unfold oneH at z
      split at z
      · exact ⟨by assumption, (Option.some.inj z).symm⟩
      · cases z
    refine core_G (H := oneH a { cls := .type "list", data := .seq vs.toArray } (ns.map V.int)) KX hns hb hbb hlim hg ha hr F (fun b u z => ⟨(only b u z).1, _, _, (only b u z).2⟩) (fun b u z => ?_) (fun _ => hk) (hsp _ (.inl (.inr ⟨_, at_⟩)))
    obtain ⟨rfl, rfl⟩ := only b u z
    exact ⟨ha, by rw [List.length_map]; exact hl, vs, _, rv, ha⟩
end
/-- the goal behind the head: F gives the written part and the promise -/
theorem walk_ofG {l : PySem.W.OpenLaw} {n k : Nat} {q : Program} {loose : List Str} {XP : (Str → Option Value) → Heap → Prop} {YP : World → Heap → Prop} {d : DefRec} (hn : l.most = some n) (hn2 : n ≤ sizeLine) (hdf : d.params.defaults = []) (hr : Room k callerA)
    (F : ∀ (w : World) (mg : Str → Option Value) (fa : Addr) (h : Heap), YP w h → h.Ns mainGlobals mg → mg d.name = some (.ref fa) →
      ∃ (K : PySem.W.Frag) (sp : Sp), K.In h ∧ (∀ (H : Hp) (a : Addr) (ns : List Int), ns.length ≤ n → SqL K H a (ns.map V.int) → sp [.ref a] H (fun v _ => v = .bl true) fun _ _ _ => False) ∧ ∀ base : Heap, FnG l.prog w K mg base k fa sp) :
    PySem.W.WalkO q loose XP YP l.row.toRowW d [] (fun f vs => PySem.call f vs) := by
  refine Att.attach_call hn hdf fun w s0 s1 mg mb fa o pm cd doc a vs ns G Y ho hd hcd hmg hobj hints hlen hg => ?_
  obtain ⟨K, sp, KX, hsp, hF⟩ := F w mg fa _ Y G.T.g hmg
  exact law_callG KX G.T.g G.T.b G.T.builtins G.T.nolimit hg hobj hints (Nat.le_trans hlen hn2) hr hF fun H hS => hsp H a ns hlen hS
end Wl
open PySem PySem.W PySem.Calls PyProof.Rows
set_option maxHeartbeats 0 in
theorem PySem.Challenge.cw_waitnumbers_k74_steps_that_are_none_holds : PySem.Challenge.rw_waitnumbers_k74_steps_that_are_none.Holds := by
  w_on; o_law
  refine HandSHeadRun.head_any (r := OpenLaw.row PySem.Challenge.rw_waitnumbers_k74_steps_that_are_none) (q := view (OpenLaw.row PySem.Challenge.rw_waitnumbers_k74_steps_that_are_none).prog [57]) (H := Wn.hk) (ob := Wn.ob) (M := 9107) (loose := Wn.names) (d := HandSHeadRun.topDef (OpenLaw.row PySem.Challenge.rw_waitnumbers_k74_steps_that_are_none).prog 57) (kwd := []) Wn.ob_eq
    (by kernel_rfl) (fun s => by kernel_rfl) Wn.run (by kernel_rfl) (by kernel_rfl) (by kernel_rfl) (by rfl) (by first | assumption | decide +kernel) (by decide +kernel) ⟨rfl, rfl, rfl, rfl, rfl, by decide +kernel⟩ ?hw ?hc
  case hw => w_witness2
  case hc =>
    refine Wl.walk_ofG (l := PySem.Challenge.rw_waitnumbers_k74_steps_that_are_none) (n := 63) (k := 13) rfl (by decide) (by kernel_rfl) ⟨rfl, by decide, by decide⟩ ?F
    intro w mg fa h Y G hmg0
    obtain ⟨K, KX, c⟩ := Y
    have hmg : mg ("law" : PySem.Str) = some (.ref fa) := by
      have e : (HandSHeadRun.topDef (OpenLaw.row PySem.Challenge.rw_waitnumbers_k74_steps_that_are_none).prog 57).name = ("law" : PySem.Str) := by kernel_rfl
      rw [← e]
      exact hmg0
    have T : Wn.Txt w K mg := Wn.txt_of KX G c
    have e := hmg.symm.trans T.g_law
    cases e
    exact ⟨K, Wn.sp_law K, KX, fun H a ns hl hS => ⟨a, ns, rfl, hS, by omega, fun _ _ => rfl⟩, fun base => Wn.ok_law T⟩
