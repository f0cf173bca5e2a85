import PyProof.Rows.All
import Wide.All
import OpenK.AllK
import Wide.FinOn
import KE.KExcSuper
import KE.KExcInit
import HandS.ForMost
import HandS.Exc
import HandS.WordsExc
import HandS.Defaults
import HandS.Property
import HandS.ClsMeth
import HandS.Head0
import HandS.Head1
import HandS.Head2
import HandS.HeadEnd
import HandS.HeadHook1
import HandS.HeadHook2
import HandS.HeadHook4
import HandS.HeadWalk
import PyProof.ReprRoads
import HandS.Ends
import HandS.IsInst
import HandS.More
import KE.KSuperObj
import KE.SortData
import PyProof.TupleOfSeq
import HandS.SortRule
import HandS.ExcValue
import HandS.Star
import HandS.Deep
import HandS.Walk
import KE.GoesEnum
import KE.GoesMore
import KE.KStar
import HandS.DictComp
import KE.KMethU
import HandS.Strs
import HandS.TupSets
import HandS.ExcInit
import HandS.ExcIs
import HandS.ExcField
import KE.KExcIs
import HandS.Lambda
import HandS.ExcCtx
import KE.KTryMore
import HandS.HotCalls
import HandS.SetFor
import HandS.Conv
import PyProof.ListRange
import KE.KSuper
import HandS.FStr
import HandS.MakeKwOnly
import KE.KCallOwn
import PySem.Challenge.RW_latestrows_k14_settings_refused
set_option Elab.async false
set_option linter.all false
set_option maxRecDepth 100000
set_option maxHeartbeats 2000000
namespace Hd
open PySem PySem.Spec PyProof.Rows L2 He
open PySem.W (Frag nsIn findIn kitOne clsIn subIn hasDictIn specialIn takesIn mroIn keepIn typeIn excInitIn excOver ks_superIn ksFn codeIn)
/-! ### the head's facts: any looks at the written part, and defs by paths of one's own -/
abbrev Chk := Frag → Bool
/-- one def: where it stands, names, its text, its defaults -/
structure DefP where
  at_ : Frag → Addr
  name : Str
  qual : Str
  st : Stmt
  dfl : List Dv := []
  kwd : List (Str × Dv) := []
def fnP (K : Frag) (a : Addr) : FnW := match K.lookup a with
  | some ⟨_, _, .func fd, _⟩ => some (fd.name, fd.qualname, fd.params, fd.body, fd.scope, fd.globals, fd.closure, fd.builtins)
  | _ => none
def DefP.val (d : DefP) : FnW := some (d.name, d.qual, defArgs d.st, .stmts (defBody d.st), defScope d.st, mainGlobals, [], builtinsNs)
def DefP.dvs (K : Frag) (d : DefP) : List V := d.dfl.map (Dv.v K)
def DefP.kws (K : Frag) (d : DefP) : List (Str × V) := d.kwd.map fun q => (q.1, q.2.v K)
def DefP.ok (K : Frag) (d : DefP) : Bool := PySem.W.keepIn K (.ref (d.at_ K)) && (match K.lookup (d.at_ K) with
  | some ⟨_, _, .func fd, _⟩ => PySem.W.codeIn K fd.code d.qual && (dflB K fd.defaults (d.dvs K) && kwdB K fd.kwdefaults (d.kws K))
  | _ => false)
theorem DefP.funD {K : Frag} {d : DefP} (e : fnP K (d.at_ K) = d.val) (c : d.ok K = true) : ∃ fd, FunD K d.name d.qual (defArgs d.st) (defBody d.st) (defScope d.st) (d.dvs K) (d.kws K) (d.at_ K) fd := by
  obtain ⟨kp, c2⟩ := ba c
  unfold fnP at e
  cases q : K.lookup (d.at_ K) with
  | none =>
    rw [q] at c2
    cases c2
  | some o =>
    obtain ⟨oc, od, dt, osl⟩ := o
    rw [q] at c2 e
    cases dt with
    | func fd =>
      obtain ⟨n1, n2, n3, n4, n5, n6, n7, n8, n9, n10, n11, n12, n13, n14, n15⟩ := fd
      have e2 : (some (n1, n2, n3, n4, n5, n6, n7, n15) : FnW) = some (d.name, d.qual, defArgs d.st, .stmts (defBody d.st), defScope d.st, mainGlobals, [], builtinsNs) := e
      simp only [Option.some.injEq, Prod.mk.injEq] at e2
      obtain ⟨h1, h2, h3, h4, h5, h6, h7, h8⟩ := e2
      subst h1 h2 h3 h4 h5 h6 h7 h8
      have c3 : (PySem.W.codeIn K n13 d.qual && (dflB K n8 (d.dvs K) && kwdB K n9 (d.kws K))) = true := c2
      obtain ⟨k1, k2⟩ := ba c3
      obtain ⟨k3, k4⟩ := ba k2
      exact ⟨_, ⟨oc, od, n8, n9, n10, n11, n12, n13, n14, osl, rfl, q, k1, dflB_ok k3, kwdB_ok k4⟩, kp⟩
    | _ => cases c2
theorem FunD.plain {K : Frag} {x qual : Str} {st : Stmt} {f : Addr} {fd : FuncData} {kws : List (Str × V)} (F : FunD K x qual (defArgs st) (defBody st) (defScope st) [] kws f fd) : Fun K x qual st f fd := by
  obtain ⟨⟨oc, od, dV, kV, doc, pm, an, cdv, ct, osl, e, lk, hcd, dd, kk⟩, kp⟩ := F
  rcases dd with ⟨_, rfl⟩ | ⟨n, _⟩
  · exact ⟨⟨oc, od, kV, doc, pm, an, cdv, ct, osl, e, lk, hcd⟩, kp⟩
  · exact absurd rfl n
/-! ### paths -/
def pg (x : Str) : Frag → Addr := fun K => ga K x
def pm (x m : Str) : Frag → Addr := fun K => ma K (ga K x) m
/-- the getter of a property -/
def recA (K : Frag) (p : Addr) (T : String) : Addr := match PySem.W.recIn K p T with
  | some (.ref g :: _) => g
  | _ => 0
def pp (x m : Str) : Frag → Addr := fun K => recA K (ma K (ga K x) m) "property"
def ps (x m : Str) : Frag → Addr := fun K => recA K (ma K (ga K x) m) "staticmethod"
/-! ### looks -/
def cFa (f : Fa) : Chk := fun K => f.ok K
def cSpec (x m : Str) : Chk := fun K => eqO (findIn K (.ref (ga K x)) m) (some (some (.ref (ma K (ga K x) m)))) && PySem.W.isFn K (.ref (ma K (ga K x) m))
def cProp (x m : Str) : Chk := fun K => eqO (findIn K (.ref (ga K x)) m) (some (some (.ref (ma K (ga K x) m)))) && (eqO (PySem.W.specialIn K (.ref (ma K (ga K x) m)) "__get__") (some (some (.builtin "property.__get__"))) &&
  (decide (PySem.W.takesIn K (.ref (ma K (ga K x) m)) = some true) && (match PySem.W.recIn K (ma K (ga K x) m) "property" with
    | some (.ref g :: _) => true
    | _ => false)))
theorem rec_is {K : Frag} {p : Addr} {T : String} (h : (match PySem.W.recIn K p T with
    | some (.ref g :: _) => true
    | _ => false) = true) : ∃ rest, PySem.W.recIn K p T = some (.ref (recA K p T) :: rest) := by
  unfold recA
  cases e : PySem.W.recIn K p T with
  | none =>
    rw [e] at h
    cases h
  | some l =>
    rw [e] at h
    cases l with
    | nil => cases h
    | cons v r =>
      cases v with
      | ref g => exact ⟨r, rfl⟩
      | _ => cases h
theorem prop_ok {K : Frag} {x m : Str} (h : cProp x m K = true) : PropOf K (ga K x) m (pm x m K) (pp x m K) := by
  obtain ⟨h1, h⟩ := ba h
  obtain ⟨h2, h⟩ := ba h
  obtain ⟨h3, h4⟩ := ba h
  exact ⟨eqO_ok h1, eqO_ok h2, of_decide_eq_true h3, rec_is h4⟩
def cStat (x m : Str) : Chk := fun K => (match PySem.W.findCls K (.ref (ga K x)) (.type "type") m with
    | some (.get (.builtin b) (.ref p) .none (.ref C)) => decide (b = "staticmethod.__get__") && (decide (p = ma K (ga K x) m) && decide (C = ga K x))
    | _ => false) && ((match PySem.W.recIn K (ma K (ga K x) m) "staticmethod" with
    | some (.ref g :: _) => true
    | _ => false) && PySem.W.keepIn K (.ref (ps x m K)))
def cRead (x : Str) : Chk := fun K => PySem.W.readsIn K (ga K x) (.type "type") && eqO (PySem.W.specialIn K (.ref (ga K x)) "__getattribute__") (some (some (.builtin "type.__getattribute__")))
theorem read_ok {K : Frag} {x : Str} (h : cRead x K = true) : ClX.CRead K (ga K x) (.type "type") := ⟨(ba h).1, eqO_ok (ba h).2⟩
def cFind (x m : Str) (r : Option Value) : Chk := fun K => eqO (findIn K (.ref (ga K x)) m) (some r)
theorem find_ok {K : Frag} {x m : Str} {r : Option Value} (h : cFind x m r K = true) : findIn K (.ref (ga K x)) m = some r := eqO_ok h
/-- of a class's own class attribute: what isinstance asks -/
def cIs (x : Str) : Chk := fun K => eqO (findIn K (.ref (ga K x)) "__class__") (some (some (.builtin "object.__class__"))) && (eqO (PySem.W.specialIn K (.builtin "object.__class__") "__get__") (some (some (.builtin "getset_descriptor.__get__"))) &&
  (decide (PySem.W.takesIn K (.builtin "object.__class__") = some true) && decide (PySem.W.mroIn K (ga K x) (.type "object") = some true)))
def cKit (a c : Frag → Value) (b : Bool) : Chk := fun K => decide (kitOne K (a K) (c K) = some b)
theorem kit_ok {K : Frag} {a c : Frag → Value} {b : Bool} (h : cKit a c b K = true) : kitOne K (a K) (c K) = some b := of_decide_eq_true h
def cNot (x : Str) (t : Frag → Value) : Chk := fun K => PySem.W.notFirst K (ga K x) (t K)
/-! ### methods that say super(): their cell and file too -/
structure DefC where
  at_ : Frag → Addr
  cls : Frag → Addr
  name : Str
  qual : Str
  st : Stmt
  file : Str
abbrev FnC : Type := Option (Str × Str × Arguments × FuncBody × Scope × Addr × Addr)
def fnC (K : Frag) (a : Addr) : FnC := match K.lookup a with
  | some ⟨_, _, .func fd, _⟩ => some (fd.name, fd.qualname, fd.params, fd.body, fd.scope, fd.globals, fd.builtins)
  | _ => none
def DefC.val (d : DefC) : FnC := some (d.name, d.qual, defArgs d.st, .stmts (defBody d.st), defScope d.st, mainGlobals, builtinsNs)
def isNone : Value → Bool
  | .none => true
  | _ => false
theorem isNone_eq {v : Value} (h : isNone v = true) : v = .none := by
  cases v <;> first | rfl | cases h
def cellB (K : Frag) (C : Addr) : List (Str × Addr) → Bool
  | [(n, cc)] => decide (n = "__class__") && (match K.lookup cc with
    | some ⟨_, _, .cell (some (.ref C')), _⟩ => decide (C' = C)
    | _ => false)
  | _ => false
def fileB (K : Frag) (file : Str) : Value → Bool
  | .ref c => (match K.lookup c with
    | some ⟨_, _, .fields vs, _⟩ => (match (vs[2]? : Option Value) with
      | some (.str z _) => decide (z = file)
      | _ => false)
    | _ => false)
  | _ => false
def DefC.ok (K : Frag) (d : DefC) : Bool := match K.lookup (d.at_ K) with
  | some ⟨_, _, .func fd, _⟩ => codeIn K fd.code d.qual && (isNone fd.defaults && (cellB K (d.cls K) fd.closure && fileB K d.file fd.code))
  | _ => false
/-- what is known of such a def -/
structure SupF (K : Frag) (d : DefC) (a C : Addr) : Prop where
  ex : ∃ (oc : Value) (od : Option Addr) (kV doc pm : Value) (an : Option Addr) (cda : Addr) (ct : Value) (cc : Addr) (osl : Array (Option Value)) (ccl : Value) (cdd : Option Addr) (vs : Array Value) (ccs : Array (Option Value)) (tf : Tok) (cl : Value) (cld : Option Addr) (csl : Array (Option Value)),
    K.lookup a = some ⟨oc, od, .func (ksFn d.name d.qual (defArgs d.st) (defBody d.st) (defScope d.st) .none kV doc pm an (.ref cda) ct cc), osl⟩ ∧ codeIn K (.ref cda) d.qual = true ∧
      K.lookup cda = some ⟨ccl, cdd, .fields vs, ccs⟩ ∧ vs[2]? = some (.str d.file tf) ∧ K.lookup cc = some ⟨cl, cld, .cell (some (.ref C)), csl⟩
theorem cellB_ok {K : Frag} {C : Addr} {cl : List (Str × Addr)} (h : cellB K C cl = true) : ∃ cc x y z, cl = [(("__class__" : Str), cc)] ∧ K.lookup cc = some ⟨x, y, .cell (some (.ref C)), z⟩ := by
  unfold cellB at h
  split at h
  · rename_i n cc
    obtain ⟨h1, h2⟩ := ba h
    have e1 : n = "__class__" := of_decide_eq_true h1
    subst e1
    split at h2
    · rename_i x y C' z hk
      have e2 : C' = C := of_decide_eq_true h2
      subst e2
      exact ⟨cc, x, y, z, rfl, hk⟩
    · cases h2
  · cases h
theorem fileB_ok {K : Frag} {file : Str} {v : Value} (h : fileB K file v = true) : ∃ c x y vs z t, v = .ref c ∧ K.lookup c = some ⟨x, y, .fields vs, z⟩ ∧ vs[2]? = some (.str file t) := by
  unfold fileB at h
  split at h
  · rename_i c
    split at h
    · rename_i x y vs z hk
      split at h
      · rename_i w t hv
        have e : w = file := of_decide_eq_true h
        subst e
        exact ⟨c, x, y, vs, z, t, rfl, hk, hv⟩
      · cases h
    · cases h
  · cases h
theorem DefC.sup {K : Frag} {d : DefC} (e : fnC K (d.at_ K) = d.val) (c : d.ok K = true) : SupF K d (d.at_ K) (d.cls K) := by
  unfold fnC at e
  unfold DefC.ok at c
  cases q : K.lookup (d.at_ K) with
  | none =>
    rw [q] at c
    cases c
  | some o =>
    obtain ⟨oc, od, dt, osl⟩ := o
    rw [q] at c e
    cases dt with
    | func fd =>
      obtain ⟨n1, n2, n3, n4, n5, n6, n7, n8, n9, n10, n11, n12, n13, n14, n15⟩ := fd
      have e2 : (some (n1, n2, n3, n4, n5, n6, n15) : FnC) = some (d.name, d.qual, defArgs d.st, .stmts (defBody d.st), defScope d.st, mainGlobals, builtinsNs) := e
      simp only [Option.some.injEq, Prod.mk.injEq] at e2
      obtain ⟨h1, h2, h3, h4, h5, h6, h8⟩ := e2
      subst h1 h2 h3 h4 h5 h6 h8
      have c3 : (codeIn K n13 d.qual && (isNone n8 && (cellB K (d.cls K) n7 && fileB K d.file n13))) = true := c
      obtain ⟨k1, k2⟩ := ba c3
      obtain ⟨k3, k4⟩ := ba k2
      obtain ⟨k5, k6⟩ := ba k4
      have z8 := isNone_eq k3
      obtain ⟨cc, x, y, z, z7, hcc⟩ := cellB_ok k5
      obtain ⟨cd, x2, y2, vs, z2, t, z13, hcd, hvs⟩ := fileB_ok k6
      subst z8 z7 z13
      exact ⟨⟨oc, od, n9, n10, n11, n12, cd, n14, cc, osl, x2, y2, vs, z2, t, x, y, z, q, k1, hcd, hvs, hcc⟩⟩
    | _ => cases c
/-! ### the Hook: looks, defs, defs with super(), tables of code objects -/
def codeAt (K : Frag) (a : Addr) : Addr := match K.lookup a with
  | some ⟨_, _, .func fd, _⟩ => (match fd.code with
    | .ref c => c
    | _ => 0)
  | _ => 0
def cTab (K : Frag) (a : Addr) : Addr × Addr := (codeAt K a, tabOf K (codeAt K a))
def tabsQ (g : Addr → Option Obj) (tf : List (Frag → Addr)) (K : Frag) : Bool := tf.all fun p => PySem.W.codeHdIn K (cTab K (p K)).1 (cTab K (p K)).2 && (match g (cTab K (p K)).2 with
  | some o => emptyTab o
  | none => false)
abbrev AlQ : Type := Bool × List FnW × List FnC
def obsQ (fa : List Chk) (fn : List DefP) (fc : List DefC) (tf : List (Frag → Addr)) (g : Addr → Option Obj) (K : Frag) : AlQ := ((fa.all fun f => f K) && ((fn.all fun d => d.ok K) && ((fc.all fun d => d.ok K) && tabsQ g tf K)), fn.map (fun d => fnP K (d.at_ K)), fc.map fun d => fnC K (d.at_ K))
def valQ (fn : List DefP) (fc : List DefC) : AlQ := (true, fn.map DefP.val, fc.map DefC.val)
structure SaysQ (fa : List Chk) (fn : List DefP) (fc : List DefC) (tf : List (Frag → Addr)) (h : Heap) (K : Frag) : Prop where
  fact : ∀ f ∈ fa, f K = true
  defs : ∀ d ∈ fn, ∃ fd, FunD K d.name d.qual (defArgs d.st) (defBody d.st) (defScope d.st) (d.dvs K) (d.kws K) (d.at_ K) fd
  sups : ∀ d ∈ fc, SupF K d (d.at_ K) (d.cls K)
  hd : ∀ p ∈ tf, PySem.W.codeHdIn K (cTab K (p K)).1 (cTab K (p K)).2 = true
  out : ∀ p ∈ tf, K.lookup (cTab K (p K)).2 = none
  empty : ∀ p ∈ tf, h.get? (cTab K (p K)).2 = some { cls := .none, data := .fields #[] }
def frQ (n : Nat) (g : Addr → Option Obj) : Frag := frT g (cStatics :: asD g n)
theorem saysQ_of {n : Nat} {fa : List Chk} {fn : List DefP} {fc : List DefC} {tf : List (Frag → Addr)} {h : Heap} (e : obsQ fa fn fc tf h.get? (frQ n h.get?) = valQ fn fc) : SaysQ fa fn fc tf h (frQ n h.get?) := by
  have e1 := congrArg (fun z : AlQ => z.1) e
  have e2 := congrArg (fun z : AlQ => z.2.1) e
  have e3 := congrArg (fun z : AlQ => z.2.2) e
  obtain ⟨a1, a⟩ := ba (show ((fa.all fun f => f (frQ n h.get?)) && ((fn.all fun d => d.ok (frQ n h.get?)) && ((fc.all fun d => d.ok (frQ n h.get?)) && tabsQ h.get? tf (frQ n h.get?)))) = true from e1)
  obtain ⟨a2, a⟩ := ba a
  obtain ⟨a3, a4⟩ := ba a
  have key : ∀ p ∈ tf, PySem.W.codeHdIn (frQ n h.get?) (cTab (frQ n h.get?) (p (frQ n h.get?))).1 (cTab (frQ n h.get?) (p (frQ n h.get?))).2 = true ∧ ∃ o, h.get? (cTab (frQ n h.get?) (p (frQ n h.get?))).2 = some o ∧ emptyTab o = true := fun p hp => by
    obtain ⟨h3, h4⟩ := ba (List.all_eq_true.mp a4 p hp)
    refine ⟨h3, ?_⟩
    cases q : h.get? (cTab (frQ n h.get?) (p (frQ n h.get?))).2 with
    | none =>
      rw [q] at h4
      cases h4
    | some o =>
      rw [q] at h4
      exact ⟨o, rfl, h4⟩
  refine ⟨fun f hf => List.all_eq_true.mp a1 f hf, fun d hd => ?_, fun d hd => ?_, fun p hp => (key p hp).1, fun p hp => ?_, fun p hp => ?_⟩
  · obtain ⟨i, hi⟩ := List.getElem?_of_mem hd
    have e4 : (fn.map fun d => fnP (frQ n h.get?) (d.at_ (frQ n h.get?)))[i]? = (fn.map DefP.val)[i]? := by
      have e5 : fn.map (fun d => fnP (frQ n h.get?) (d.at_ (frQ n h.get?))) = fn.map DefP.val := e2
      rw [e5]
    rw [List.getElem?_map, List.getElem?_map, hi] at e4
    exact DefP.funD (Option.some.inj e4) (List.all_eq_true.mp a2 d hd)
  · obtain ⟨i, hi⟩ := List.getElem?_of_mem hd
    have e4 : (fc.map fun d => fnC (frQ n h.get?) (d.at_ (frQ n h.get?)))[i]? = (fc.map DefC.val)[i]? := by
      have e5 : fc.map (fun d => fnC (frQ n h.get?) (d.at_ (frQ n h.get?))) = fc.map DefC.val := e3
      rw [e5]
    rw [List.getElem?_map, List.getElem?_map, hi] at e4
    exact DefC.sup (Option.some.inj e4) (List.all_eq_true.mp a3 d hd)
  · obtain ⟨_, o, q, z⟩ := key p hp
    exact frT_none q z
  · obtain ⟨_, o, q, z⟩ := key p hp
    rw [q, emptyTab_eq z]
def hookQ (n : Nat) (fa : List Chk) (fn : List DefP) (fc : List DefC) (tf : List (Frag → Addr)) : PySem.W.Hook where
  α := AlQ
  obs := fun s => obsQ fa fn fc tf s.heap.get? (frQ n s.heap.get?)
  val := fun _ => valQ fn fc
  says := fun _ h => ∃ K : Frag, K.In h ∧ SaysQ fa fn fc tf h K
  of := fun _ _ e => ⟨_, frT_in, saysQ_of e⟩
  keeps := fun _ _ _ ⟨K, hK, c⟩ k => ⟨K, PySem.W.Frag.In.keeps hK k, ⟨c.fact, c.defs, c.sups, c.hd, c.out, fun p hp => k _ _ (c.empty p hp)⟩⟩
def obsQG (n : Nat) (fa : List Chk) (fn : List DefP) (fc : List DefC) (tf : List (Frag → Addr)) (g : Addr → Option Obj) : AlQ := obsQ fa fn fc tf g (frQ n g)
theorem obsQG_eq {n : Nat} {fa : List Chk} {fn : List DefP} {fc : List DefC} {tf : List (Frag → Addr)} {g : Addr → Option Obj} {s : Shared} (h : ∀ a, g a = s.heap.get? a) : obsQG n fa fn fc tf g = (hookQ n fa fn fc tf).obs s := by
  have e : g = s.heap.get? := funext h
  rw [e] <;> rfl
section
variable {fa : List Chk} {fn : List DefP} {fc : List DefC} {tf : List (Frag → Addr)} {h : Heap} {K : Frag}
theorem SaysQ.f (c : SaysQ fa fn fc tf h K) (i : Nat) {f : Chk} (e : fa[i]? = some f := by rfl) : f K = true := c.fact f (List.mem_of_getElem? e)
theorem SaysQ.d (c : SaysQ fa fn fc tf h K) (i : Nat) {at_ : Frag → Addr} {x q : Str} {st : Stmt} (e : fn[i]? = some ⟨at_, x, q, st, [], []⟩ := by rfl) : ∃ fd, Fun K x q st (at_ K) fd := by
  obtain ⟨fd, F⟩ := c.defs _ (List.mem_of_getElem? e)
  exact ⟨fd, FunD.plain F⟩
theorem SaysQ.s (c : SaysQ fa fn fc tf h K) (i : Nat) {d : DefC} (e : fc[i]? = some d := by rfl) : SupF K d (d.at_ K) (d.cls K) := c.sups d (List.mem_of_getElem? e)
end
def eclsB (K : Frag) (C : Addr) : Bool :=
  (clsIn K C).isSome && findIn K (.ref C) "__getattribute__" == some (some (.builtin "BaseException.__getattribute__")) && findIn K (.ref C) "__getattr__" == some none && subIn K (.ref C) (.type "BaseException") == some true &&
  hasDictIn K C && findIn K (.ref C) "__class__" == some (some (.builtin "object.__class__")) && specialIn K (.builtin "object.__class__") "__get__" == some (some (.builtin "getset_descriptor.__get__")) &&
  takesIn K (.builtin "object.__class__") == some true && mroIn K C (.type "object") == some true && keepIn K (.ref C)
def tailOf (B : String) : List Value := [.type B, .type "Exception", .type "BaseException", .type "object"]
/-- what the written part says of a class with an __init__ of its own, but the text of it -/
def etB (K : Frag) (B : String) (C fI : Addr) (f : Str) : Bool :=
  excInitIn K C (tailOf B) (B ++ ".__new__") && excOver K C (tailOf B) && hasDictIn K C && findIn K (.ref C) "__setattr__" == some (some (.builtin "object.__setattr__")) && findIn K (.ref C) f == some none &&
  ks_superIn K C C "__init__" == some (some (.builtin (B ++ ".__init__"))) && subIn K (.ref C) (.type B) == some true && mroIn K C (.ref C) == some true && findIn K (.ref C) "__init__" == some (some (.ref fI)) && typeIn K (.ref fI) == some (.type "function")
end Hd
namespace QL
open PySem L2 He
open PySem.W (Frag nsIn findIn kitOne keepIn typeIn exmAny)
def xsn (i : Nat) : Str := (["InvalidName", "InvalidTime", "InvalidNumber", "InvalidWithin", "InvalidStrict", "InvalidText", "InvalidGrid", "NotATime", "NotALook", "NotAReader", "NotATable", "MissingRow", "NoSuchPart", "InvalidRows", "InvalidApart", "InvalidFeeds", "TooMany", "NoGrid", "LatestError", "StateError", "RuleError", "LimitError"] : List Str).getD i ""
def wdn (i : Nat) : Str := (["name", "moment", "number", "within", "strict", "text", "grid", "time", "look", "reader", "table", "row", "part", "rows", "apart", "feeds", "many", "net"] : List Str).getD i ""
def bsn (j : Nat) : String := (["ValueError", "LookupError", "RuntimeError", "ArithmeticError"] : List String).getD j ""
def xfN (c : Nat) : Option Str := if c = 17 then none else if c = 16 then some "limit" else if 13 ≤ c then some "index" else some "value"
def basN (c : Nat) : Nat := if c = 11 ∨ c = 12 then 1 else if c = 17 then 2 else if c = 16 then 3 else 0
def xtS (i c : Nat) : Option Bool := if c < 18 then some (if i < 18 then c == i else basN c == i - 18) else none
def xtB (j c : Nat) : Option Bool := if c < 18 then some (basN c == j) else none
def kbT (T t : String) : Option Bool := if t ∈ (["NoneType", "bool", "int", "str", "tuple", "list", "dict"] : List String) then some (t == T || (t == "bool" && T == "int")) else none
def alls {α : Type} (l : List α) (p : α → Bool) : Bool := l.all p
theorem alls_at {α : Type} {l : List α} {p : α → Bool} (h : alls l p = true) {x : α} (hx : x ∈ l) : p x = true := List.all_eq_true.mp h x hx
theorem range_at {n : Nat} {p : Nat → Bool} (h : alls (List.range n) p = true) (j : Nat) (hj : j < n) : p j = true := alls_at h (List.mem_range.mpr hj)
def cErr1 (K : Frag) : Bool := alls (List.range 22) fun i => eqO (nsIn K mainGlobals (xsn i)) (some (some (.ref (ga K (xsn i)))))
def cErr2 (K : Frag) : Bool := alls (List.range 18) fun c => Hd.eclsB K (ga K (xsn c))
def cErr3 (K : Frag) : Bool := alls (List.range 18) fun c => alls (List.range 22) fun i => decide (kitOne K (.ref (ga K (xsn c))) (.ref (ga K (xsn i))) = xtS i c)
def cErr4 (K : Frag) : Bool := alls (List.range 18) fun c => alls (List.range 4) fun j => decide (kitOne K (.ref (ga K (xsn c))) (.type (bsn j)) = xtB j c)
def cErr5 (K : Frag) : Bool := alls (List.range 18) fun c => decide (exmAny K (.ref (ga K (xsn c))) [.ref (ga K (xsn 18)), .ref (ga K (xsn 19)), .ref (ga K (xsn 20)), .ref (ga K (xsn 21))] = some true)
def cErr6 (K : Frag) : Bool := alls (List.range 17) fun c => eqO (findIn K (.ref (ga K (xsn c))) ((xfN c).getD "")) (some none)
def cErr7 (K : Frag) : Bool := alls (List.range 18) fun c => decide (typeIn K (.ref (ga K (xsn c))) = some (.type "type"))
def tys : List String := ["NoneType", "bool", "int", "str", "tuple", "list", "dict"]
def tyT : List String := ["int", "bool", "str", "tuple", "list"]
def cIsi1 (K : Frag) : Bool := alls tyT fun t => alls tys fun s => decide (kitOne K (.type s) (.type t) = kbT t s)
def cIsi2 (cls : List Str) (K : Frag) : Bool := alls cls fun x => (Fa.cls x).ok K && (Hd.cIs x K && alls tyT fun t => decide (kitOne K (.ref (ga K x)) (.type t) = some false))
def tabT (K : Frag) (tf : List ((Frag → Addr) × Str)) : List (Addr × Str) := tf.map fun p => ((Hd.cTab K (p.1 K)).2, p.2 ++ ".<locals>." ++ "<lambda>")
def cTabs (tf : List ((Frag → Addr) × Str)) (K : Frag) : Bool := alls (tabT K tf) fun p => alls (tabT K tf) fun q => !decide (p.1 = q.1) || decide (p.2 = q.2)
end QL
set_option Elab.async false
set_option linter.all false
set_option maxRecDepth 100000
set_option maxHeartbeats 2000000
namespace Hd
open PySem PySem.Spec PyProof.Rows L2 He
open PySem.W (Frag nsIn findIn clsIn mroIn typeIn ks_superIn)
/-! ### keyword defaults; a method of the class above -/
def kwNs (K : Frag) (a : Addr) (nm : Str) : Option Value := match K.lookup a with
  | some ⟨_, _, .func fd, _⟩ => (match fd.kwdefaults with
    | .ref D => (match nsIn K D nm with
      | some (some u) => some u
      | _ => none)
    | _ => none)
  | _ => none
def kwRef (K : Frag) (a : Addr) (nm : Str) : Addr := match kwNs K a nm with
  | some (.ref r) => r
  | _ => 0
def emptyT (K : Frag) (a : Addr) : Bool := match K.lookup a with
  | some o => (match o.cls with
    | .type t => decide (t = "tuple")
    | _ => false) && (match o.data with
    | .seq its _ => decide (its.toList = [])
    | _ => false)
  | none => false
def cKwN (at_ : Frag → Addr) (nm : Str) : Chk := fun K => match kwNs K (at_ K) nm with
  | some .none => true
  | _ => false
def cKwT (at_ : Frag → Addr) (nm : Str) : Chk := fun K => match kwNs K (at_ K) nm with
  | some (.ref r) => emptyT K r
  | _ => false
def cSup (x : Str) (m : Str) (g : Frag → Addr) : Chk := fun K => (clsIn K (ga K x)).isSome && (decide (mroIn K (ga K x) (.ref (ga K x)) = some true) && (eqO (ks_superIn K (ga K x) (ga K x) m) (some (some (.ref (g K)))) && (decide (typeIn K (.ref (g K)) = some (.type "function")) && PySem.W.fnIn K (g K))))
end Hd
set_option Elab.async false
set_option linter.all false
set_option maxRecDepth 100000
namespace QL
open PySem
def top (i : Nat) : Stmt := PySem.Challenge.pw_latestrows_k14_settings_refused.main.body.getD i (.Pass ⟨0, 0, 0, 0⟩)
def item (st : Stmt) (i : Nat) : Stmt := match st with
  | .ClassDef (body := b) .. => b.getD i (.Pass ⟨0, 0, 0, 0⟩)
  | _ => .Pass ⟨0, 0, 0, 0⟩
end QL
set_option Elab.async false
set_option linter.all false
set_option maxRecDepth 100000
set_option maxHeartbeats 0
namespace QL
open PySem L2 He
open PySem.W (Frag nsIn findIn kitOne)
def tfE : List ((Frag → Addr) × Str) := [(Hd.pg "_law_right", "_law_right"), (Hd.pg "_law_by_hand", "_law_by_hand")]
def fnsE : List Hd.DefP := [⟨Hd.pg "is_integer", "is_integer", "is_integer", top 30, [], []⟩,
  ⟨Hd.pg "is_name", "is_name", "is_name", top 32, [], []⟩,
  ⟨Hd.pg "is_between", "is_between", "is_between", top 31, [], []⟩,
  ⟨Hd.pg "check_grid", "check_grid", "check_grid", top 38, [], []⟩,
  ⟨Hd.pg "check_apart", "check_apart", "check_apart", top 39, [], []⟩,
  ⟨Hd.pg "check_on_grid", "check_on_grid", "check_on_grid", top 40, [], []⟩,
  ⟨Hd.pg "setting_text", "setting_text", "setting_text", top 41, [], []⟩,
  ⟨Hd.pg "_law_number", "_law_number", "_law_number", top 45, [], []⟩,
  ⟨Hd.pg "_law_source", "_law_source", "_law_source", top 46, [], []⟩,
  ⟨Hd.pg "_law_pick", "_law_pick", "_law_pick", top 47, [], []⟩,
  ⟨Hd.pg "_law_one", "_law_one", "_law_one", top 48, [], []⟩,
  ⟨Hd.pg "_law_tag", "_law_tag", "_law_tag", top 49, [], []⟩,
  ⟨Hd.pg "_law_tags", "_law_tags", "_law_tags", top 50, [], []⟩,
  ⟨Hd.pg "_law_net", "_law_net", "_law_net", top 51, [], []⟩,
  ⟨Hd.pg "_law_known", "_law_known", "_law_known", top 52, [], []⟩,
  ⟨Hd.pg "_law_known_text", "_law_known_text", "_law_known_text", top 53, [], []⟩,
  ⟨Hd.pg "_law_is_tag", "_law_is_tag", "_law_is_tag", top 54, [], []⟩,
  ⟨Hd.pg "_law_is_whole", "_law_is_whole", "_law_is_whole", top 55, [], []⟩,
  ⟨Hd.pg "_law_caught", "_law_caught", "_law_caught", top 56, [], []⟩,
  ⟨Hd.pg "_law_field", "_law_field", "_law_field", top 57, [], []⟩,
  ⟨Hd.pg "_law_bent", "_law_bent", "_law_bent", top 58, [], []⟩,
  ⟨Hd.pg "_law_is_net", "_law_is_net", "_law_is_net", top 59, [], []⟩,
  ⟨Hd.pg "_law_is_pair", "_law_is_pair", "_law_is_pair", top 60, [], []⟩,
  ⟨Hd.pg "_law_due", "_law_due", "_law_due", top 61, [], []⟩,
  ⟨Hd.pg "_law_right", "_law_right", "_law_right", top 62, [], []⟩,
  ⟨Hd.pg "_law_by_hand", "_law_by_hand", "_law_by_hand", top 63, [], []⟩,
  ⟨Hd.pg "law", "law", "law", top 64, [], []⟩,
  ⟨Hd.pm "Written" "__init__", "__init__", "Written.__init__", item (top 35) 1, [], []⟩,
  ⟨Hd.pm "Written" "__str__", "__str__", "Written.__str__", item (top 35) 2, [], []⟩]
def fcE : List Hd.DefC := [⟨Hd.pm (xsn 0) "__init__", Hd.pg (xsn 0), "__init__", "InvalidName.__init__", item (top 6) 0, "/claim/cut.py"⟩,
  ⟨Hd.pm (xsn 6) "__init__", Hd.pg (xsn 6), "__init__", "InvalidGrid.__init__", item (top 12) 0, "/claim/cut.py"⟩,
  ⟨Hd.pm (xsn 14) "__init__", Hd.pg (xsn 14), "__init__", "InvalidApart.__init__", item (top 18) 0, "/claim/cut.py"⟩,
  ⟨Hd.pm (xsn 15) "__init__", Hd.pg (xsn 15), "__init__", "InvalidFeeds.__init__", item (top 19) 0, "/claim/cut.py"⟩,
  ⟨Hd.pm "Setting" "__init__", Hd.pg "Setting", "__init__", "Setting.__init__", item (top 42) 1, "/claim/cut.py"⟩]
def faE : List Hd.Chk := [Hd.cFa (.free "isinstance"),
  Hd.cFa (.free "int"),
  Hd.cFa (.free "bool"),
  Hd.cFa (.free "str"),
  Hd.cFa (.free "tuple"),
  Hd.cFa (.free "list"),
  Hd.cFa (.free "dict"),
  Hd.cFa (.free "len"),
  Hd.cFa (.free "all"),
  Hd.cFa (.free "any"),
  Hd.cFa (.free "enumerate"),
  Hd.cFa (.free "sorted"),
  Hd.cFa (.free "abs"),
  Hd.cFa (.free "range"),
  Hd.cFa (.free "set"),
  Hd.cFa (.free "repr"),
  Hd.cFa (.free "max"),
  Hd.cFa (.free "min"),
  Hd.cFa (.free "ValueError"),
  Hd.cFa (.free "LookupError"),
  Hd.cFa (.free "RuntimeError"),
  Hd.cFa (.free "ArithmeticError"),
  Hd.cFa (.free "super"),
  Hd.cFa (.glo "is_integer"),
  Hd.cFa (.glo "is_name"),
  Hd.cFa (.glo "is_between"),
  Hd.cFa (.glo "check_grid"),
  Hd.cFa (.glo "check_apart"),
  Hd.cFa (.glo "check_on_grid"),
  Hd.cFa (.glo "setting_text"),
  Hd.cFa (.glo "_law_number"),
  Hd.cFa (.glo "_law_source"),
  Hd.cFa (.glo "_law_pick"),
  Hd.cFa (.glo "_law_one"),
  Hd.cFa (.glo "_law_tag"),
  Hd.cFa (.glo "_law_tags"),
  Hd.cFa (.glo "_law_net"),
  Hd.cFa (.glo "_law_known"),
  Hd.cFa (.glo "_law_known_text"),
  Hd.cFa (.glo "_law_is_tag"),
  Hd.cFa (.glo "_law_is_whole"),
  Hd.cFa (.glo "_law_caught"),
  Hd.cFa (.glo "_law_field"),
  Hd.cFa (.glo "_law_bent"),
  Hd.cFa (.glo "_law_is_net"),
  Hd.cFa (.glo "_law_is_pair"),
  Hd.cFa (.glo "_law_due"),
  Hd.cFa (.glo "_law_right"),
  Hd.cFa (.glo "_law_by_hand"),
  Hd.cFa (.glo "law"),
  Hd.cFa (.str "LETTERS" "abcdefghijklmnopqrstuvwxyz"),
  Hd.cFa (.str "SIGNS" "abcdefghijklmnopqrstuvwxyz0123456789"),
  Hd.cFa (.int "MAX_LENGTH" 8),
  Hd.cFa (.int "MAX_STEP" 60),
  Hd.cFa (.int "MAX_DISTANCE" 1000000000),
  cErr1,
  cErr2,
  cErr3,
  cErr4,
  cErr5,
  cErr6,
  cErr7,
  cIsi1,
  cIsi2 ["Setting", "Setting"],
  (fun K => He.eqO (nsIn K cStatics "thirdparty.any") (some none)),
  cTabs tfE,
  (fun K => Hd.etB K (bsn (basN 0)) (He.ga K (xsn 0)) (Hd.pm (xsn 0) "__init__" K) "value"),
  (fun K => Hd.etB K (bsn (basN 6)) (He.ga K (xsn 6)) (Hd.pm (xsn 6) "__init__" K) "value"),
  (fun K => Hd.etB K (bsn (basN 14)) (He.ga K (xsn 14)) (Hd.pm (xsn 14) "__init__" K) "index"),
  (fun K => Hd.etB K (bsn (basN 15)) (He.ga K (xsn 15)) (Hd.pm (xsn 15) "__init__" K) "index"),
  Hd.cFa (.glo "Setting"),
  Hd.cFa (.cls "Setting"),
  Hd.cFa (.mkr "Setting"),
  Hd.cFa (.glo "Setting"),
  Hd.cFa (.cls "Setting"),
  Hd.cFa (.mkr "Setting"),
  Hd.cFa (.noat "Setting" "known"),
  Hd.cFa (.noat "Setting" "text"),
  Hd.cSpec "Written" "__str__",
  Hd.cKwN (Hd.pm "Setting" "__init__") "grid",
  Hd.cKwT (Hd.pm "Setting" "__init__") "apart",
  Hd.cKwT (Hd.pm "Setting" "__init__") "on_grid",
  Hd.cKwN (Hd.pm "Setting" "__init__") "at_rows",
  Hd.cSup "Setting" "__init__" (Hd.pm "Written" "__init__"),
  (fun K => He.eqO (findIn K (.ref (He.ga K "Setting")) "__str__") (some (some (.ref (Hd.pm "Written" "__str__" K)))) && PySem.W.isFn K (.ref (Hd.pm "Written" "__str__" K)))]
def loose0 : List Str := ["_wall", "LatestError", "StateError", "RuleError", "LimitError", "InvalidName", "InvalidTime", "InvalidNumber", "InvalidWithin", "InvalidStrict", "InvalidText", "InvalidGrid", "NotATime", "NotALook", "NotAReader", "NotATable", "InvalidRows", "InvalidApart", "InvalidFeeds", "MissingRow", "NoSuchPart", "NoGrid", "TooMany", "MAX_STEP", "MAX_DISTANCE", "LETTERS", "SIGNS", "MAX_LENGTH", "is_integer", "is_between"]
def loose1 : List Str := ["is_name", "check_name", "Written", "integer_of", "check_grid", "check_apart", "check_on_grid", "setting_text", "Setting", "setting_from", "_law_number", "_law_source", "_law_pick", "_law_one", "_law_tag", "_law_tags", "_law_net", "_law_known", "_law_known_text", "_law_is_tag", "_law_is_whole", "_law_caught", "_law_field", "_law_bent", "_law_is_net", "_law_is_pair", "_law_due", "_law_right", "_law_by_hand"]
def looseE : List Str := loose0 ++ loose1
abbrev tpE : List (Frag → Addr) := tfE.map (·.1)
abbrev RE' : PySem.W.OpenRow := PySem.W.OpenLaw.row PySem.Challenge.rw_latestrows_k14_settings_refused
abbrev hkE : PySem.W.Hook := Hd.hookQ 5 faE fnsE fcE tpE
def obE (s : PySem.W.SharedT) : Hd.AlQ := Hd.obsQG 5 faE fnsE fcE tpE (HandSHeadRun.getT s)
theorem obE_eq (s : PySem.W.SharedT) : obE s = hkE.obs s.abs := Hd.obsQG_eq (HandSHeadRun.getT_eq s)
theorem runE (w : World) : HandSHeadRun.RunEq RE' (PySem.W.view RE'.prog [64]) hkE obE 30000 looseE w := by
  intro os
  kernel_rfl
end QL
set_option Elab.async false
set_option linter.all false
set_option maxRecDepth 100000
set_option maxHeartbeats 2000000
namespace L2
open PySem PySem.Spec PyProof.Rows
/-! ### defs that are called where nothing is being shown (repr): the guards are known to be none -/
structure FnOkG (P : Program) (w : World) (K : PySem.W.Frag) (mg : Str → Option Value) (base : Heap) (CX : CXT) (k : Nat) (f : Addr) (fd : FuncData) (ps : List Str) (sp : Sp) : Prop where
  len : ∀ vs H Q E, sp vs H Q E → vs.length = ps.length
  run : ∀ (A : Around) (outer : List Env) (s : Shared) (H : Hp) (args : Args) (us : List Value) (vs : List V) (Q : VK) (E : XK), Room k A → A.guards = some [] → Env0 P w K mg base A outer s H →
    BindsTo s fd args (ps.zip us) → Vals vs us → sp vs H Q E → codeAny (model P w) A (.call (.ref f) args) (CR CX outer P w H s Q E) s
section
variable {P : Program} {w : World} {K : PySem.W.Frag} {mg : Str → Option Value} {base : Heap} {CX : CXT} {k : Nat} {f : Addr} {fd : FuncData} {ps : List Str} {sp : Sp}
theorem FnOk.g (F : FnOk P w K mg base CX k f fd ps sp) : FnOkG P w K mg base CX k f fd ps sp := ⟨F.len, fun A outer s H args us vs Q E hr _ => F.run A outer s H args us vs Q E hr⟩
theorem FnOkG.mono {j : Nat} (F : FnOkG P w K mg base CX j f fd ps sp) (h : j ≤ k) : FnOkG P w K mg base CX k f fd ps sp :=
  ⟨F.len, fun A outer s H args us vs Q E hr => F.run A outer s H args us vs Q E (hr.mono h)⟩
theorem guards_deeper {A : Around} {env : Env} (h : A.guards = some []) : (A.deeper env).guards = some [] := by
  first
    | exact h
    | simpa [Around.deeper] using h
theorem fn_ofG {name qual : Str} {params : Arguments} {body : List Stmt} {scope : Scope} {dV kV doc pm cdv ct oc : Value} {an od : Option Addr} {osl : Array (Option Value)} {N : List Str}
    (lk : K.lookup f = some ⟨oc, od, .func (PySem.W.fnOf name qual params body scope dV kV doc pm an cdv ct), osl⟩) (hcd : PySem.W.codeIn K cdv qual = true) (S : FnScope N ps scope)
    (len : ∀ vs H Q E, sp vs H Q E → vs.length = ps.length)
    (hbody : ∀ (A : Around) (outer : List Env) (s : Shared) (H : Hp) (vs : List V) (Q : VK) (E : XK), Room k (A.deeper (envOfC qual scope s.heap.objs.size f cdv)) → (A.deeper (envOfC qual scope s.heap.objs.size f cdv)).guards = some [] → sp vs H Q E →
      ∃ t, PSs (cxOf CX P w K mg base N qual scope f cdv A outer s H E) body t ∧ t { nx := fun _ H' => Q .non H', rt := Q } (start N vs) H) :
    FnOkG P w K mg base CX (k + 1) f (PySem.W.fnOf name qual params body scope dV kV doc pm an cdv ct) ps sp := by
  constructor
  · exact len
  intro A outer s H args us vs Q E room hg e0 bnd rel pre
  have bk : ∀ b o, base.get? b = some o → s.heap.get? b = some o := fun b o z => (e0.bs b o z).1
  have kin : K.In s.heap := e0.mod.kin.keeps bk
  have nolim : s.heap.NoLimit := e0.mod.nolimit.keeps bk
  have kinds : ∀ y ∈ ps.zip us, scope.names.lookup y.1 = some .local ∨ (scope.names.lookup y.1 = some .cell ∧ ((cellsFrom (s.heap.objs.size + 1) scope.names []).lookup y.1).isSome = true) := by
    rintro ⟨n, v⟩ hy
    cases S.par n (List.of_mem_zip hy).1 with
    | inl q => exact .inl q
    | inr q => exact .inr ⟨q, PySem.W.cellsFrom_some _ _ _ (.inl q)⟩
  apply codeAny_call_function room.depth (kin _ _ lk) rfl S.co S.gen rfl (PySem.W.codeRec_of kin hcd)
  apply bnd
  apply wpAny_newFunctionEnv_cells S.kind kinds
  rintro env rfl s1 x
  refine ⟨nolim.keeps x.toInCall.keep, codeAny_func ?_⟩
  obtain ⟨t, ht, hq⟩ := hbody A outer s H vs Q E (room.deeper _) (guards_deeper hg) pre
  have J := inv_start (CX := CX) (E := E) S room.hd e0 (len _ _ _ _ pre) rel x
  refine wpAny_mono (ht.run [] s1 (start N vs) H _ J hq) (fun fl s' z => ?_) fun _ _ z => z
  cases fl with
  | ret u =>
    obtain ⟨v, _, H', J', rv, q⟩ := z
    exact ⟨v, H', J'.os, J'.bare, J'.base, J'.hok, rv, q⟩
  | next =>
    obtain ⟨_, H', J', q⟩ := z
    exact ⟨.non, H', J'.os, J'.bare, J'.base, J'.hok, rfl, q⟩
  | brk =>
    obtain ⟨_, _, _, q⟩ := z
    cases q
  | cont =>
    obtain ⟨_, _, _, q⟩ := z
    cases q
theorem Fun.okG {x qual : Str} {st : Stmt} {N : List Str} (F : Fun K x qual st f fd) (S : FnScope N ps (defScope st)) (len : ∀ vs H Q E, sp vs H Q E → vs.length = ps.length)
    (hbody : ∀ (cdv : Value) (A : Around) (outer : List Env) (s : Shared) (H : Hp) (vs : List V) (Q : VK) (E : XK), Room k (A.deeper (envOfC qual (defScope st) s.heap.objs.size f cdv)) → (A.deeper (envOfC qual (defScope st) s.heap.objs.size f cdv)).guards = some [] → sp vs H Q E →
      ∃ t, PSs (cxOf CX0 P w K mg base N qual (defScope st) f cdv A outer s H E).nox (defBody st) t ∧ t { nx := fun _ H' => Q .non H', rt := Q } (start N vs) H) : FnOkG P w K mg base CX0 (k + 1) f fd ps sp := by
  obtain ⟨oc, od, kV, doc, pm, an, cdv, ct, osl, rfl, lk, hcd⟩ := F.ex
  refine fn_ofG lk hcd S len fun A outer s H vs Q E hr hg hsp => ?_
  obtain ⟨t, h1, h2⟩ := hbody cdv A outer s H vs Q E hr hg hsp
  exact ⟨t, h1.nox, h2⟩
end
section
variable {X : Cx} {CX : CXT} {k : Nat} {f : Addr} {fd : FuncData} {ps : List Str} {sp : Sp} {ds : List Value} {dvs : List V} {E : XK} {x : Str} {e : Expr} {es : List Expr} {t : TA} {p pos : Pos}
theorem run_fnG {pins : List (Addr × Obj)} {σ : St} {H : Hp} {s : Shared} {Q : VK} {us : List Value} {vs : List V} (F : FnOkG X.prog X.w X.K X.mg X.base CX k f fd ps sp) (hr : Room k X.A) (hg : X.A.guards = some []) (hb : Binds X.K fd ps ds) (hd : Vals dvs ds) (hx : Passes CX X E)
    (I : Inv X pins σ H s) (r : Vals vs us) (h : sp (vs ++ dvs) H Q E) : wpAny (model X.prog X.w) X.A (call (.ref f) us) (EP X pins σ Q) X.xe s := by
  have rr : Vals (vs ++ dvs) (us ++ ds) := r.append hd
  have hl : (us ++ ds).length = ps.length := rr.length ▸ F.len _ _ _ _ h
  apply wpAny_call
  apply codeAny_mono (F.run X.A X.stack s H ⟨us, []⟩ (us ++ ds) (vs ++ dvs) Q E hr hg I.env0 (hb s us I.kIn hl) rr h)
  intro r s' z
  match r, z with
  | .error e, z => exact hx pins σ H s e s' I z
  | .ok (.ret u), z => exact I.after z
  | .ok .next, z => cases z
  | .ok .brk, z => cases z
  | .ok .cont, z => cases z
/-- f(e, ..), f a def of known guards -/
theorem pe_callG (F : FnOkG X.prog X.w X.K X.mg X.base CX k f fd ps sp) (hr : Room k X.A) (hgd : X.A.guards = some []) (hg : Gl X x) (hm : X.mg x = some (.ref f)) (hk : PySem.W.keepIn X.K (.ref f) = true) (hb : Binds X.K fd ps ds) (hd : Vals dvs ds) (hx : Passes CX X E)
    (ha : PA X (e :: es) t) (hdb : (x == ("__debug__" : Str)) = false := by decide) (he : starEach (e :: es) X.env = (false, eval e X.env) :: starEach es X.env := by rfl) (hpl : (backTo pos (starEach es X.env)).any (·.1) = false := by rfl) :
    PE X (.Call (.Name x p) (e :: es) [] pos) (tCall sp dvs E t) := by
  constructor
  intro pins s σ H Q I h
  apply wpAny_Call_Name_kw
  apply ld_glob I hg hm _ hdb
  refine PySem.W.callWith_K (h₀ := X.base) I.ok.mod.kin hk (thn (ha.run pos pins s σ H _ I h) fun us s1 hh => ?_) he hpl
  obtain ⟨vs, H1, I1, r, q⟩ := hh
  exact ⟨I1.kIn, run_fnG F hr hgd hb hd hx I1 r q⟩
/-- repr(x) of data of any depth -/
def rRepr (K : PySem.W.Frag) (A : Around) : List V → Hp → VK → Prop := fun xs H Q => ∃ (a : Addr) (d : PyData), xs = [.ref a] ∧ Dp K H (.ref a) d ∧ A.guards = some [] ∧ d.showable = true ∧ d.hasDict = false ∧ d.depth ≤ 60 ∧ d.shown.length ≤ sizeLine ∧ Q (.str d.shown) H
theorem call_repr (hu : X.A.units + 64 < cLine) : CallR X (.builtin "repr") (rRepr X.K X.A) := by
  intro pins s σ H xs us Q I r h
  obtain ⟨a, d, rfl, hd, hg, h1, h2, h3, h4, q⟩ := h
  cases r with
  | cons rx rr =>
    cases rr
    obtain ⟨as, rd⟩ := Dp.reads I d _ _ hd rx
    cases rx
    refine repr_of_reads' (h₀ := s.heap) rd h1 (fun z => by rw [h2] at z; cases z) hg (by omega) (fun _ _ z => z) (fun h' u tk k => ?_) h4
    exact ⟨.str d.shown, H, I.kept (t' := tk) k, ⟨u, rfl⟩, q⟩
end
end L2
set_option Elab.async false
set_option linter.all false
set_option maxRecDepth 100000
set_option maxHeartbeats 2000000
namespace L2
open PySem PySem.Spec PyProof.Rows
/-! ### the law's own call, its guards known -/
theorem core_G {P : Program} {w : World} {K : PySem.W.Frag} {mg mb : Str → Option Value} {CX : CXT} {k : Nat} {fa a : Addr} {fd : FuncData} {x : Str} {sp : Sp} {s1 : Shared} {vs : List Value}
    (kin : K.In s1.heap) (glo : s1.heap.Ns mainGlobals mg) (blt : s1.heap.Ns builtinsNs mb) (bb : ∀ y : Str, y ≠ "__name__" → mb y = bootBuiltins y) (lim : s1.heap.NoLimit) (gens : s1.gens = #[])
    (at_a : s1.heap.get? a = some { cls := .type "list", data := .seq vs.toArray }) (room : Room k callerA)
    (F : ∀ base : Heap, K.In base → base.Ns mainGlobals mg → FnOkG P w K mg base CX k fa fd [x] sp) (bnd : ∀ (s : Shared) (u : Value), BindsTo s fd ⟨[u], []⟩ [(x, u)])
    (noX : ∀ H e s', CX [] H s1 (fun _ _ _ => False) e s' → False)
    (H : Hp) (only : Only H) (hok : HOk P w H s1.heap) (one : ∀ b, H b ≠ none → b = a) (unK : H a ≠ none → K.lookup a = none) (pre : sp [.ref a] H (fun v _ => v = .bl true) fun _ _ _ => False) :
    codeAny (model P w) callerA (.call (.ref fa) ⟨[.ref a], []⟩) (fun r s' => r = .ok (.ret (.bool true)) ∧ OldK s1.heap s'.heap ∧ s'.os = s1.os ∧ AllBare s'.gens) s1 := by
  have kept : ∀ {b : Addr} {o : Obj}, s1.heap.get? b = some o → H b = none → (hidT s1.heap H).get? b = some o := fun p q => hidT_get p q
  have dictFree : ∀ {b : Addr} {o : Obj} {es : Array DictEntry} {ep : Nat}, s1.heap.get? b = some o → o.data = .dict es ep → H b = none := by
    intro b o es ep p q
    cases z : H b with
    | none => rfl
    | some u =>
      obtain rfl : b = a := one b (by simp [z])
      rw [at_a] at p
      cases p
      cases q
  have nsOf : ∀ {b : Addr} {m : Str → Option Value}, s1.heap.Ns b m → (hidT s1.heap H).Ns b m := by
    rintro b m ⟨o, es, ep, p, q, r⟩
    exact ⟨o, es, ep, kept p (dictFree p q), q, r⟩
  have kinB : K.In (hidT s1.heap H) := by
    intro b o p
    refine kept (kin b o p) ?_
    cases z : H b with
    | none => rfl
    | some u =>
      obtain rfl : b = a := one b (by simp [z])
      rw [unK (by simp [z])] at p
      cases p
  obtain ⟨mc, c1, c2⟩ := lim
  have m0 : Mod K mg (hidT s1.heap H) := ⟨kinB, nsOf glo, ⟨mb, nsOf blt, bb⟩, ⟨mc, nsOf c1, c2⟩⟩
  have noFr : ∀ b : Addr, b ∉ frs [] := fun b hb => by cases hb
  have e0 : Env0 P w K mg (hidT s1.heap H) callerA [] s1 H := ⟨rfl, m0, fun b o p => of_hidT p, Nat.le_of_eq (hidT_size _ _), trivial, fun b hb => (noFr b hb).elim, hok, .of_eq gens⟩
  apply codeAny_mono ((F _ kinB (nsOf glo)).run callerA [] s1 H ⟨[.ref a], []⟩ [.ref a] [.ref a] _ _ room rfl e0 (bnd s1 (.ref a)) (.cons rfl .nil) pre)
  intro r s' z
  match r, z with
  | .error e, z => exact (noX H e s' z).elim
  | .ok .next, z => cases z
  | .ok .brk, z => cases z
  | .ok .cont, z => cases z
  | .ok (.ret u), z =>
    obtain ⟨v, H', os, bare, un, hok', rv, q⟩ := z
    cases (show v = .bl true from q)
    obtain rfl : u = Value.bool true := rv
    refine ⟨rfl, OldK.of_keep fun b o p => ?_, os, bare⟩
    cases z : H b with
    | none => exact un.keep b o p z (fun hb => noFr b hb) (by simp)
    | some u =>
      rcases only b with y | ⟨ob, xs, y⟩
      · rw [z] at y
        cases y
      · obtain ⟨p1, _⟩ := hok b _ y
        obtain ⟨p2, _⟩ := hok' b _ (un.frzs b ob _ y)
        rw [p] at p1
        cases p1
        exact p2
theorem law_callG {P : Program} {w : World} {K : PySem.W.Frag} {mg mb : Str → Option Value} {CX : CXT} {k : Nat} {fa a : Addr} {fd : FuncData} {x : Str} {sp : Sp} {s1 : Shared} {vs : List Value} {ns : List Int}
    (kin : K.In s1.heap) (glo : s1.heap.Ns mainGlobals mg) (blt : s1.heap.Ns builtinsNs mb) (bb : ∀ y : Str, y ≠ "__name__" → mb y = bootBuiltins y) (lim : s1.heap.NoLimit) (gens : s1.gens = #[])
    (at_a : s1.heap.get? a = some { cls := .type "list", data := .seq vs.toArray }) (hin : IntsAre vs ns) (hl : ns.length ≤ sizeLine) (room : Room k callerA)
    (F : ∀ base : Heap, K.In base → base.Ns mainGlobals mg → FnOkG P w K mg base CX k fa fd [x] sp) (bnd : ∀ (s : Shared) (u : Value), BindsTo s fd ⟨[u], []⟩ [(x, u)])
    (hsp : ∀ H : Hp, Only H → SqL K H a (ns.map V.int) → sp [.ref a] H (fun v _ => v = .bl true) fun _ _ _ => False) (noX : ∀ H e s', CX [] H s1 (fun _ _ _ => False) e s' → False) :
    codeAny (model P w) callerA (.call (.ref fa) ⟨[.ref a], []⟩) (fun r s' => r = .ok (.ret (.bool true)) ∧ OldK s1.heap s'.heap ∧ s'.os = s1.os ∧ AllBare s'.gens) s1 := by
  have rv := vals_ints hin
  have lenV := hin.length
  cases hk : K.lookup a with
  | some o =>
    have p := kin a o hk
    rw [at_a] at p
    cases p
    have no : Only fun _ => none := fun _ => .inl rfl
    refine core_G kin glo blt bb lim gens at_a room F bnd noX (fun _ => none) no (fun b u z => by cases z) (fun b z => absurd rfl z) (fun z => absurd rfl z) (hsp _ no ?_)
    exact .inr ⟨_, vs.toArray, _, hk, rfl, rfl, rfl, by rw [List.size_toArray, lenV]; exact hl, by simpa using rv⟩
  | none =>
    have on : Only (fun b => if b = a then some (.frz { cls := .type "list", data := .seq vs.toArray } (.lst (ns.map V.int))) else none) := by
      intro b
      by_cases hb : b = a
      · exact .inr ⟨_, _, if_pos hb⟩
      · exact .inl (if_neg hb)
    refine core_G kin glo blt bb lim gens at_a room F bnd noX _ on (fun b u z => ?_) (fun b z => ?_) (fun _ => hk) (hsp _ on (.inl (.inr ⟨{ cls := .type "list", data := .seq vs.toArray }, if_pos rfl⟩)))
    · by_cases hb : b = a
      · subst hb
        have y : some (HO.frz { cls := .type "list", data := .seq vs.toArray } (.lst (ns.map V.int))) = some u := (if_pos rfl).symm.trans z
        cases y
        exact ⟨at_a, by rw [List.length_map]; exact hl, vs, _, rv, at_a⟩
      · have y : (none : Option HO) = some u := (if_neg hb).symm.trans z
        cases y
    · by_cases hb : b = a
      · exact hb
      · exact absurd (if_neg hb) z
/-- the end of a law row, K known by what a head's look says of it -/
theorem walk_ofG {l : PySem.W.OpenLaw} {n k : Nat} {q : Program} {loose : List Str} {XP : (Str → Option Value) → Heap → Prop} {YP : World → Heap → Prop} {d : DefRec} {CX : CXT} {x : Str}
    (hn : l.most = some n) (hn2 : n ≤ sizeLine) (hdf : d.params.defaults = []) (hr : Room k callerA)
    (F : ∀ (w : World) (mg : Str → Option Value) (fa : Addr) (h : Heap), YP w h → h.Ns mainGlobals mg → mg d.name = some (.ref fa) →
      ∃ (K : PySem.W.Frag) (fd : FuncData) (sp : Sp), K.In h ∧ (∀ (s : Shared) (u : Value), BindsTo s fd ⟨[u], []⟩ [(x, u)]) ∧
        (∀ (H : Hp) (a : Addr) (ns : List Int), ns.length ≤ n → Only H → SqL K H a (ns.map V.int) → sp [.ref a] H (fun v _ => v = .bl true) fun _ _ _ => False) ∧
        ∀ base : Heap, K.In base → base.Ns mainGlobals mg → FnOkG l.prog w K mg base CX k fa fd [x] sp)
    (hCX : ∀ (H : Hp) (s : Shared) (e : Value) (s' : Shared), CX [] H s (fun _ _ _ => False) e s' → False) :
    PySem.W.WalkO q loose XP YP l.row.toRowW d [] (fun f vs => PySem.call f vs) := by
  refine Att.attach_call hn hdf fun w s0 s1 mg mb fa o pm cd doc a vs ns G Y ho hd hcd hmg hobj hints hlen hg => ?_
  obtain ⟨K, fd, sp, KX, hb, hsp, hF⟩ := F w mg fa _ Y G.T.g hmg
  exact law_callG KX G.T.g G.T.b G.T.builtins G.T.nolimit hg hobj hints (Nat.le_trans hlen hn2) hr hF hb (fun H hO hS => hsp H a ns hlen hO hS) fun H e s' => hCX H s1 e s'
end L2
set_option Elab.async false
set_option linter.all false
set_option maxRecDepth 100000
set_option maxHeartbeats 2000000
namespace L2
open PySem PySem.Spec PyProof.Rows
/-! ### len, repr, bool, in, ==, != of an own instance, by the class's own defs -/
abbrev noE : XK := fun _ _ _ => False
section
variable {X : Cx} {pins : List (Addr × Obj)} {σ : St} {H : Hp} {s : Shared}
theorem ins_at {a C dx : Addr} {fs : List (Str × V)} (I : Inv X pins σ H s) (ha : H a = some (.ins C dx fs)) : ∃ od, PySem.W.InstAt s.heap a (PySem.W.instObj C dx) C (some od) := by
  have z : ObjOk X.prog X.w H s.heap a (.ins C dx fs) := I.hok a _ ha
  obtain ⟨_, _, _, e, mA, hns, _⟩ := z
  obtain ⟨od, ho, _⟩ := lookIn_ns hns
  exact ⟨od, e, rfl, rfl, ho⟩
theorem run1 {k : Nat} {f : Addr} {fd : FuncData} {ps : List Str} {sp : Sp} {Q : VK} {us : List Value} {vs : List V} (F : FnOk X.prog X.w X.K X.mg X.base CX0 k f fd ps sp) (hr : Room (k + 1) X.A) (hb : Binds X.K fd ps [])
    (I : Inv X pins σ H s) (r : Vals vs us) (h : sp vs H Q noE) : wpAny (model X.prog X.w) X.A.in1 (call (.ref f) us) (EP X pins σ Q) X.xe s := by
  have hl : us.length = ps.length := r.length ▸ F.len _ _ _ _ h
  have bd : BindsTo s fd ⟨us, []⟩ (ps.zip us) := by
    have z := hb s us I.kIn (by simpa using hl)
    rwa [List.append_nil] at z
  apply wpAny_call
  apply codeAny_mono (F.run X.A.in1 X.stack s H ⟨us, []⟩ us vs Q noE hr.in1 I.env0.in1 bd r h)
  intro r s' z
  match r, z with
  | .error e, z => cases z
  | .ok (.ret u), z => exact I.after z
  | .ok .next, z => cases z
  | .ok .brk, z => cases z
  | .ok .cont, z => cases z
theorem run0 {k : Nat} {f : Addr} {fd : FuncData} {ps : List Str} {sp : Sp} {Q : VK} {us : List Value} {vs : List V} (F : FnOk X.prog X.w X.K X.mg X.base CX0 k f fd ps sp) (hr : Room k X.A) (hb : Binds X.K fd ps [])
    (I : Inv X pins σ H s) (r : Vals vs us) (h : sp vs H Q noE) : wpAny (model X.prog X.w) X.A (call (.ref f) us) (EP X pins σ Q) X.xe s := by
  have hl : us.length = ps.length := r.length ▸ F.len _ _ _ _ h
  have bd : BindsTo s fd ⟨us, []⟩ (ps.zip us) := by
    have z := hb s us I.kIn (by simpa using hl)
    rwa [List.append_nil] at z
  apply wpAny_call
  apply codeAny_mono (F.run X.A X.stack s H ⟨us, []⟩ us vs Q noE hr I.env0 bd r h)
  intro r s' z
  match r, z with
  | .error e, z => cases z
  | .ok (.ret u), z => exact I.after z
  | .ok .next, z => cases z
  | .ok .brk, z => cases z
  | .ok .cont, z => cases z
end
/-- the class at C has the def at f under the special name m -/
structure Spec1 (K : PySem.W.Frag) (C : Addr) (m : Str) (f : Addr) : Prop where
  at_ : PySem.W.findIn K (.ref C) m = some (some (.ref f))
  fn : PySem.W.isFn K (.ref f) = true
section
variable {X : Cx} {C f : Addr} {fd : FuncData} {sp : Sp} {k : Nat}
def rLenI (C : Addr) (sp : Sp) : List V → Hp → VK → Prop := fun xs H Q => ∃ a dx fs, xs = [V.ref a] ∧ H a = some (.ins C dx fs) ∧ sp [.ref a] H (fun v H' => ∃ n : Int, v = .int n ∧ 0 ≤ n ∧ n < 2 ^ 63 ∧ Q (.int n) H') noE
theorem call_lenI (S : Spec1 X.K C "__len__" f) (F : FnOk X.prog X.w X.K X.mg X.base CX0 k f fd ["self"] sp) (hr : Room (k + 1) X.A) (hb : Binds X.K fd ["self"] []) : CallR X (.builtin "len") (rLenI C sp) := by
  intro pins s σ H xs us Q I r h
  obtain ⟨a, dx, fs, rfl, ha, q⟩ := h
  obtain ⟨od, J⟩ := ins_at I ha
  obtain ⟨m, fr⟩ := I.fr
  cases r with
  | cons rx rr =>
    cases rr
    cases rx
    refine PySem.W.len_K fr I.ok.mod.kin J S.at_ S.fn (wpAny_mono (run1 (vs := [.ref a]) F hr hb I (.cons rfl .nil) q) (fun v s' z => ?_) fun _ _ z => z)
    obtain ⟨y, H', I', ry, n, ey, h0, h1, q'⟩ := z
    subst ey
    obtain ⟨t, rfl⟩ := ry
    exact ⟨⟨h0, h1⟩, .int n, H', I'.tok _, ⟨_, rfl⟩, q'⟩
def rReprI (C : Addr) (sp : Sp) : List V → Hp → VK → Prop := fun xs H Q => ∃ a dx fs, xs = [V.ref a] ∧ H a = some (.ins C dx fs) ∧ sp [.ref a] H (fun v H' => ∃ z : Str, v = .str z ∧ Q (.str z) H') noE
theorem call_reprI (S : Spec1 X.K C "__repr__" f) (F : FnOk X.prog X.w X.K X.mg X.base CX0 k f fd ["self"] sp) (hr : Room (k + 1) X.A) (hb : Binds X.K fd ["self"] []) : CallR X (.builtin "repr") (rReprI C sp) := by
  intro pins s σ H xs us Q I r h
  obtain ⟨a, dx, fs, rfl, ha, q⟩ := h
  obtain ⟨od, J⟩ := ins_at I ha
  obtain ⟨m, fr⟩ := I.fr
  cases r with
  | cons rx rr =>
    cases rr
    cases rx
    have hu : X.A.in1.units < cLine := by
      have := hr.un
      show X.A.units + 1 < cLine
      omega
    refine PySem.W.repr_K hu fr I.ok.mod.kin J S.at_ S.fn (wpAny_mono (run1 (vs := [.ref a]) F hr hb I (.cons rfl .nil) q) (fun v s' z => ?_) fun _ _ z => z)
    obtain ⟨y, H', I', ry, n, ey, q'⟩ := z
    subst ey
    obtain ⟨t, rfl⟩ := ry
    exact ⟨.str n, H', I', ⟨_, rfl⟩, q'⟩
def rInI (C : Addr) (sp : Sp) (neg : Bool) : R2 := fun x y H Q => ∃ a dx fs, y = V.ref a ∧ H a = some (.ins C dx fs) ∧ sp [.ref a, x] H (fun v H' => ∃ b : Bool, v = .bl b ∧ Q (.bl (b != neg)) H') noE
theorem op_inI (S : Spec1 X.K C "__contains__" f) (F : FnOk X.prog X.w X.K X.mg X.base CX0 k f fd ["self", "value"] sp) (hr : Room k X.A) (hb : Binds X.K fd ["self", "value"] []) : OpR X (compareOp .In) (rInI C sp false) := by
  intro pins s σ H x y v u Q I rx ry h
  obtain ⟨a, dx, fs, rfl, ha, q⟩ := h
  obtain ⟨od, J⟩ := ins_at I ha
  obtain ⟨m, fr⟩ := I.fr
  cases ry
  refine PySem.W.in_K fr I.ok.mod.kin J S.at_ S.fn (wpAny_mono (run0 (vs := [.ref a, x]) F hr hb I (.cons rfl (.cons rx .nil)) q) (fun v s' z => ?_) fun _ _ z => z)
  obtain ⟨y, H', I', ry, b, ey, q'⟩ := z
  subst ey
  cases ry
  exact wpAny_truthy_bool ⟨.bl b, H', I', rfl, by simpa using q'⟩
theorem op_notInI (S : Spec1 X.K C "__contains__" f) (F : FnOk X.prog X.w X.K X.mg X.base CX0 k f fd ["self", "value"] sp) (hr : Room k X.A) (hb : Binds X.K fd ["self", "value"] []) : OpR X (compareOp .NotIn) (rInI C sp true) := by
  intro pins s σ H x y v u Q I rx ry h
  obtain ⟨a, dx, fs, rfl, ha, q⟩ := h
  obtain ⟨od, J⟩ := ins_at I ha
  obtain ⟨m, fr⟩ := I.fr
  cases ry
  refine PySem.W.notIn_K fr I.ok.mod.kin J S.at_ S.fn (wpAny_mono (run0 (vs := [.ref a, x]) F hr hb I (.cons rfl (.cons rx .nil)) q) (fun v s' z => ?_) fun _ _ z => z)
  obtain ⟨y, H', I', ry, b, ey, q'⟩ := z
  subst ey
  cases ry
  exact wpAny_truthy_bool ⟨.bl (!b), H', I', rfl, by simpa using q'⟩
end
end L2
set_option Elab.async false
set_option linter.all false
set_option maxRecDepth 100000
set_option maxHeartbeats 2000000
namespace PySem
namespace NeX
open PySem.W
variable {prog : Program} {w : World} {M : Model} {A : Around} {E : Value → Shared → Prop} {s : Shared} {K : Frag} {x C f L : Addr} {h₀ : Heap} {m : Str → Option Value} {ox : Obj} {od : Option Obj} {b tb : Value}
/-- the built-in != of objects asks the class's own == and turns its answer -/
theorem ne_entry {Q : Fin → Shared → Prop} (hu : A.units < cLine) (X : K.In s.heap) (I : InstAt s.heap x ox C od) (hs : findIn K (.ref C) "__eq__" = some (some (.ref f))) (hf : isFn K (.ref f) = true)
    (h : wpAny M A (call (.ref f) [.ref x, b]) (fun v s' => ∃ k, v = .bool k ∧ Q (.done (.ret (.bool (!k)))) s') E s) : wpAny M A (Builtin.«object.__ne__» ⟨[.ref x, b], []⟩) Q E s := by
  unfold Builtin.«object.__ne__»
  repeat (first
    | with_reducible refine wpAny_cRoomFor hu ?_
    | (refine wpAny_bind (m := callSpecialIfBound? (.ref x) (Str.ofString "__eq__") [b]) (ifBound_K X I hs hf (wpAny_mono h (fun r s' hr => by
          obtain ⟨k, rfl, hq⟩ := hr
          repeat (first | exact hq | exact wpAny_pure hq | exact wpAny_truthy_bool hq | (refine wpAny_bind (m := truthy (.bool _)) (wpAny_truthy_bool ?_)) | wp_step)) fun _ _ e => e)))
    | wp_step)
theorem ne_call {Q : Value → Shared → Prop} (hu : A.units + 1 < cLine) (X : K.In s.heap) (I : InstAt s.heap x ox C od) (hm : mroIn K C (.type "object") = some true) (hs : findIn K (.ref C) "__eq__" = some (some (.ref f))) (hf : isFn K (.ref f) = true)
    (h : wpAny (model prog w) A.in1 (call (.ref f) [.ref x, b]) (fun v s' => ∃ k, v = .bool k ∧ Q (.bool (!k)) s') E s) : wpAny (model prog w) A (call (.builtin "object.__ne__") [.ref x, b]) Q E s := by
  refine wpAny_call (codeAny_call_builtin F.cmp_object.ne.plain F.cmpEntry_ne (check_slot F.cmpKind_ne F.cmpSplit_ne (I.type.andThen (looks_mroIn X hm)) (F.cmpArgs_ne _ _) (ne_entry (A := A.in1) hu X I hs hf ?_)))
  refine wpAny_mono h (fun v s' z => ?_) fun _ _ e => e
  obtain ⟨k, rfl, q⟩ := z
  exact ⟨k, rfl, q⟩
theorem ne_bound {Q : Option Value → Shared → Prop} (X : K.In s.heap) (I : InstAt s.heap x ox C od) (hs : findIn K (.ref C) "__ne__" = some (some (.builtin "object.__ne__")))
    (h : wpAny M A (call (.builtin "object.__ne__") [.ref x, b]) (fun v => Q (some v)) E s) : wpAny M A (callSpecialIfBound? (.ref x) "__ne__" [b]) Q E s := by
  simp only [callSpecialIfBound?, bindSpecialIfBound?]
  apply wpAny_holding
  apply wpAny_bind
  apply wpAny_bind
  apply wpAny_bind
  apply I.type.here
  apply (looks_findIn X hs).here
  have done : wpAny M A (call (.builtin "object.__ne__") ([.ref x] ++ [b]) >>= fun v => pure (some v)) Q E s := wpAny_bind (wpAny_mono h (fun v s' z => wpAny_pure z) fun _ _ z => z)
  refine wpAny_bind (wpAny_askSetting (wpAny_ite ?_))
  split
  · exact wpAny_bind (wpAny_of_eq (F.cmp_object.ne.bind _) (wpAny_pure (by exact done)))
  · exact wpAny_tryCatch (wpAny_bind (wpAny_of_eq (F.cmp_object.ne.bind _) (wpAny_pure (by exact done))))
theorem ne_own {Q : Value → Shared → Prop} (hu : A.units + 1 < cLine) (X : K.In s.heap) (I : InstAt s.heap x ox C od) (hb : Looks (model prog w) s.heap (typeOf b) tb) (hn : notFirst K C tb = true) (hm : mroIn K C (.type "object") = some true)
    (he : findIn K (.ref C) "__eq__" = some (some (.ref f))) (hf : isFn K (.ref f) = true) (hs : findIn K (.ref C) "__ne__" = some (some (.builtin "object.__ne__")))
    (h : wpAny (model prog w) A.in1 (call (.ref f) [.ref x, b]) (fun v s' => ∃ k, v = .bool k ∧ Q (.bool (!k)) s') E s) : wpAny (model prog w) A (compareOp .NotEq (.ref x) b) Q E s := by
  have one : wpAny (model prog w) A (tryCompare (.ref x) "__ne__" b) (fun r s' => ∃ v, r = some v ∧ Q v s') E s := by
    unfold tryCompare
    refine wpAny_bind (ne_bound X I hs (ne_call hu X I hm he hf (wpAny_mono h (fun v s' z => ?_) fun _ _ z => z)))
    obtain ⟨k, rfl, q⟩ := z
    exact ⟨k, rfl, wpAny_pure ⟨_, rfl, q⟩⟩
  show wpAny _ _ (richCompare .NotEq (.ref x) b) _ _ _
  unfold richCompare
  simp only [oneThing_ref, cmpInfo_NotEq]
  apply wpAny_holding
  refine wpAny_bind (wpAny_cRoomFor (Nat.lt_of_succ_lt hu) (wpAny_bind (I.type.here (wpAny_bind (hb.here ?_)))))
  have tail : wpAny (model prog w) A (tryCompare (.ref x) "__ne__" b) (fun r s' => wpAny (model prog w) A (match r with | some v => pure v | none => richCompare .NotEq (.ref x) b) (fun v s'' => Q v s'') E s') E s := wpAny_mono one (fun r s' z => by
    obtain ⟨v, rfl, q⟩ := z
    exact wpAny_pure q) fun _ _ z => z
  split
  · rename_i ne
    have e : subIn K tb (.ref C) = some false := by
      cases Bool.or_eq_true_iff.mp hn with
      | inl e =>
        rw [beq_iff_eq.mp e] at ne
        simp at ne
      | inr e => exact beq_iff_eq.mp e
    refine wpAny_bind ((looks_subIn X e).here ?_)
    simp only [Bool.false_eq_true, if_false]
    refine wpAny_bind (wpAny_mono one (fun r s' z => ?_) fun _ _ z => z)
    obtain ⟨v, rfl, q⟩ := z
    exact wpAny_pure q
  · refine wpAny_bind (wpAny_pure ?_)
    simp only [Bool.false_eq_true, if_false]
    refine wpAny_bind (wpAny_mono one (fun r s' z => ?_) fun _ _ z => z)
    obtain ⟨v, rfl, q⟩ := z
    exact wpAny_pure q
end NeX
end PySem
namespace L2
open PySem PySem.Spec PyProof.Rows
section
variable {X : Cx} {C f : Addr} {fd : FuncData} {sp : Sp} {k : Nat}
/-- x == y, x an instance whose class has its own __eq__, y of a known type that is not below it -/
def rEqI (K : PySem.W.Frag) (C : Addr) (sp : Sp) (neg : Bool) : R2 := fun x y H Q => ∃ a dx fs t, x = V.ref a ∧ H a = some (.ins C dx fs) ∧ TyX K H y t ∧ PySem.W.notFirst K C t = true ∧ sp [.ref a, y] H (fun v H' => ∃ b : Bool, v = .bl b ∧ Q (.bl (b != neg)) H') noE
theorem op_eqI (S : Spec1 X.K C "__eq__" f) (F : FnOk X.prog X.w X.K X.mg X.base CX0 k f fd ["self", "other"] sp) (hr : Room k X.A) (hb : Binds X.K fd ["self", "other"] []) : OpR X (compareOp .Eq) (rEqI X.K C sp false) := by
  intro pins s σ H x y v u Q I rx ry h
  obtain ⟨a, dx, fs, t, rfl, ha, ty, hn, q⟩ := h
  obtain ⟨od, J⟩ := ins_at I ha
  obtain ⟨m, fr⟩ := I.fr
  obtain ⟨P, Z, p, _⟩ := kit_of I ry ty
  cases rx
  have hu : X.A.units < cLine := by
    have := hr.un
    omega
  refine PySem.W.cmp_ofEq (PySem.W.cmp_K (op := .Eq) hu fr I.ok.mod.kin J (Z.ty _ _ I.kIn p) hn S.at_ S.fn (wpAny_mono (run0 (vs := [.ref a, y]) F hr hb I (.cons rfl (.cons ry .nil)) q) (fun v s' z => ?_) fun _ _ z => z))
  obtain ⟨y', H', I', ry', b, ey, q'⟩ := z
  subst ey
  cases ry'
  exact ⟨.bl b, H', I', rfl, by simpa using q'⟩
theorem op_neI (S : Spec1 X.K C "__eq__" f) (hm : PySem.W.mroIn X.K C (.type "object") = some true) (hs : PySem.W.findIn X.K (.ref C) "__ne__" = some (some (.builtin "object.__ne__"))) (F : FnOk X.prog X.w X.K X.mg X.base CX0 k f fd ["self", "other"] sp) (hr : Room (k + 1) X.A) (hb : Binds X.K fd ["self", "other"] []) :
    OpR X (compareOp .NotEq) (rEqI X.K C sp true) := by
  intro pins s σ H x y v u Q I rx ry h
  obtain ⟨a, dx, fs, t, rfl, ha, ty, hn, q⟩ := h
  obtain ⟨od, J⟩ := ins_at I ha
  obtain ⟨P, Z, p, _⟩ := kit_of I ry ty
  cases rx
  have hu : X.A.units + 1 < cLine := by
    have := hr.un
    omega
  refine PySem.NeX.ne_own hu I.kIn J (Z.ty _ _ I.kIn p) hn hm S.at_ S.fn hs (wpAny_mono (run1 (vs := [.ref a, y]) F hr hb I (.cons rfl (.cons ry .nil)) q) (fun v s' z => ?_) fun _ _ z => z)
  obtain ⟨y', H', I', ry', b, ey, q'⟩ := z
  subst ey
  cases ry'
  exact ⟨b, rfl, .bl (!b), H', I', rfl, by simpa using q'⟩
end
end L2
set_option Elab.async false
set_option linter.all false
set_option maxRecDepth 100000
set_option maxHeartbeats 2000000
namespace PySem
namespace BlX
open PySem.W
variable {prog : Program} {w : World} {A : Around} {E : Value → Shared → Prop} {s : Shared} {K : Frag} {x C f : Addr} {ox : Obj} {od : Option Obj}
theorem len_own {Q : Value → Shared → Prop} (X : K.In s.heap) (I : InstAt s.heap x ox C od) (hs : findIn K (.ref C) "__len__" = some (some (.ref f))) (hf : isFn K (.ref f) = true)
    (h : wpAny (model prog w) A (call (.ref f) [.ref x]) (LenBack Q) E s) : wpAny (model prog w) A (Builtin.«len» ⟨[.ref x], []⟩) (fun fin s' => ∃ r, fin = .done (.ret r) ∧ Q r s') E s := by
  unfold Builtin.«len»
  apply wpAny_bind (m := oneArg "len" _)
  apply wpAny_pure
  refine wpAny_bind (m := callSpecial? (.ref x) (Str.ofString "__len__")) (special_fn X I hs (beq_iff_eq.mp hf) (wpAny_mono h (fun r s' hr => ?_) fun _ _ y => y))
  cases r <;> first | exact hr.elim | skip
  rename_i n u
  obtain ⟨⟨h0, h1⟩, hq⟩ := hr
  refine wpAny_bind (wpAny_holding (wpAny_pure (wpAny_bind (wpAny_letGo ?_))))
  have e0 : ¬ n < 0 := by omega
  have e1 : ¬ n ≥ 2 ^ 63 := by omega
  change wpAny _ _ (if n < 0 then _ else _) _ _ _
  rw [if_neg e0]
  change wpAny _ _ (if n ≥ 2 ^ 63 then _ else _) _ _ _
  rw [if_neg e1]
  exact wpAny_bind (wpAny_mkInt (wpAny_pure ⟨_, rfl, hq⟩))
theorem truthy_own {Q : Bool → Shared → Prop} (X : K.In s.heap) (I : InstAt s.heap x ox C od) (hb : findIn K (.ref C) "__bool__" = some none) (hs : findIn K (.ref C) "__len__" = some (some (.ref f))) (hf : isFn K (.ref f) = true)
    (h : wpAny (model prog w) A.in1 (call (.ref f) [.ref x]) (LenBack fun v s' => match v with | .int n _ => Q (n != 0) s' | _ => False) E s) : wpAny (model prog w) A (truthy (.ref x)) Q E s := by
  have key : wpAny (model prog w) A (runValue (.builtin "len" ⟨[.ref x], []⟩)) (fun v s' => match v with | .int n _ => Q (n != 0) s' | _ => False) E s := by
    refine wpAny_runValue (codeAny_builtin entry_len ?_)
    rw [Around.under_plainId plain_len _]
    refine wpAny_mono (len_own X I hs hf h) (fun fin s' z => ?_) fun _ _ z => z
    obtain ⟨r, rfl, hq⟩ := z
    exact hq
  unfold truthy
  refine wpAny_bind (m := callSpecial? (.ref x) (Str.ofString "__bool__")) (wpAny_bind (wpAny_bind (I.type.here ((looks_findIn X hb).here (wpAny_pure ?_)))))
  refine wpAny_bind (wpAny_bind (I.type.here ((looks_findIn X hs).here ?_)))
  refine wpAny_bind (wpAny_mono key (fun r s' z => ?_) fun _ _ z => z)
  cases r <;> first | exact z.elim | exact wpAny_pure z
theorem bool_own {Q : Value → Shared → Prop} (X : K.In s.heap) (I : InstAt s.heap x ox C od) (hb : findIn K (.ref C) "__bool__" = some none) (hs : findIn K (.ref C) "__len__" = some (some (.ref f))) (hf : isFn K (.ref f) = true)
    (h : wpAny (model prog w) A.in1.in1.in1 (call (.ref f) [.ref x]) (LenBack fun v s' => match v with | .int n _ => Q (.bool (n != 0)) s' | _ => False) E s) : wpAny (model prog w) A (call (.type "bool") [.ref x]) Q E s := by
  refine ks_callType_codesW (Q₁ := fun obj s1 => (∃ k, obj = .bool k) ∧ Q obj s1) F.called_bool (fun q => wpAny_of_eq (F.typeCall_bool_1 _) q) F.entry_object_init ?_ ?_
  · apply codeAny_of_tree
    change wpAny _ A.in1.in1 (do checkBuiltinCall "bool.__new__" ⟨[.type "bool", .ref x], []⟩; again (.builtin "bool.__new__" ⟨[.type "bool", .ref x], []⟩)) _ _ s
    have pl : plainId "bool.__new__" = true := by decide +kernel
    refine wpAny_bind (wpAny_of_eq (F.newCall_bool_1 _) (wpAny_pure ⟨plainId_quiet pl _, codeAny_builtin F.entry_bool_new ?_⟩))
    rw [Around.under_plainId pl _]
    have f1 := F.conv_sub_bool
    obtain ⟨hp, g, d, tk, os⟩ := s
    have tr : ∀ {R : Bool → Shared → Prop}, (∀ k s', Q (.bool k) s' → R k s') → wpAny (model prog w) A.in1.in1 (truthy (.ref x)) R E ⟨hp, g, d, tk, os⟩ := fun {R} q => truthy_own X I hb hs hf (wpAny_mono h (fun v s' z => by
      cases v <;> first | exact z.elim | skip
      exact ⟨z.1, q _ _ z.2⟩) fun _ _ z => z)
    repeat (any_goals (first | assumption | (with_reducible refine tr ?_) | wp_step))
    intro k s' z
    exact wpAny_pure ⟨⟨k, rfl⟩, z⟩
  · intro obj s1 hq
    obtain ⟨⟨k, rfl⟩, hq⟩ := hq
    refine ⟨rfl, F.args_object_init_2 _ _, ?_⟩
    exact object_init_meets (self := .bool k) (rest := [.ref x]) F.called_bool.init.lookup F.called_bool.made F.newNe_bool prog w A.in1 _ s1 ⟨rfl, rfl, hq⟩
end BlX
end PySem
namespace L2
open PySem PySem.Spec PyProof.Rows
section
variable {X : Cx} {C f : Addr} {fd : FuncData} {sp : Sp} {k : Nat}
theorem runA {pins : List (Addr × Obj)} {σ : St} {H : Hp} {s : Shared} {A : Around} {ps : List Str} {Q : VK} {us : List Value} {vs : List V} (F : FnOk X.prog X.w X.K X.mg X.base CX0 k f fd ps sp) (hr : Room k A) (e0 : Env0 X.prog X.w X.K X.mg X.base A X.stack s H) (hb : Binds X.K fd ps [])
    (I : Inv X pins σ H s) (r : Vals vs us) (h : sp vs H Q noE) : wpAny (model X.prog X.w) A (call (.ref f) us) (EP X pins σ Q) X.xe s := by
  have hl : us.length = ps.length := r.length ▸ F.len _ _ _ _ h
  have bd : BindsTo s fd ⟨us, []⟩ (ps.zip us) := by
    have z := hb s us I.kIn (by simpa using hl)
    rwa [List.append_nil] at z
  apply wpAny_call
  apply codeAny_mono (F.run A X.stack s H ⟨us, []⟩ us vs Q noE hr e0 bd r h)
  intro r s' z
  match r, z with
  | .error e, z => cases z
  | .ok (.ret u), z => exact I.after z
  | .ok .next, z => cases z
  | .ok .brk, z => cases z
  | .ok .cont, z => cases z
def rBoolI (C : Addr) (sp : Sp) : List V → Hp → VK → Prop := fun xs H Q => ∃ a dx fs, xs = [V.ref a] ∧ H a = some (.ins C dx fs) ∧ sp [.ref a] H (fun v H' => ∃ n : Int, v = .int n ∧ 0 ≤ n ∧ n < 2 ^ 63 ∧ Q (.bl (n != 0)) H') noE
theorem call_boolI (S : Spec1 X.K C "__len__" f) (nb : PySem.W.findIn X.K (.ref C) "__bool__" = some none) (F : FnOk X.prog X.w X.K X.mg X.base CX0 k f fd ["self"] sp) (hr : Room (k + 3) X.A) (hb : Binds X.K fd ["self"] []) : CallR X (.type "bool") (rBoolI C sp) := by
  intro pins s σ H xs us Q I r h
  obtain ⟨a, dx, fs, rfl, ha, q⟩ := h
  obtain ⟨od, J⟩ := ins_at I ha
  cases r with
  | cons rx rr =>
    cases rr
    cases rx
    refine PySem.BlX.bool_own I.kIn J nb S.at_ S.fn (wpAny_mono (runA (vs := [.ref a]) F hr.in1.in1.in1 I.env0.in1.in1.in1 hb I (.cons rfl .nil) q) (fun v s' z => ?_) fun _ _ z => z)
    obtain ⟨y, H', I', ry, n, ey, h0, h1, q'⟩ := z
    subst ey
    obtain ⟨t, rfl⟩ := ry
    exact ⟨⟨h0, h1⟩, .bl (n != 0), H', I'.tok _, rfl, q'⟩
end
end L2
set_option Elab.async false
set_option linter.all false
set_option maxRecDepth 100000
set_option maxHeartbeats 2000000
namespace PySem
namespace SoX
open PySem.W PyProof.Rows PySem.Calls
variable {prog : Program} {w : World} {A : Around} {E : Value → Shared → Prop} {s : Shared} {β : Type} {R : Value → β → Prop} {enc : β → PyData} {vs : List Value} {bs : List β}
/-- sorted(x), x a list or a tuple of data of one shape -/
theorem sorted_seq {l : Addr} {T : String} {o : Obj} {n : Nat} {Q : Value → Shared → Prop} (hT : T = "list" ∨ T = "tuple") (ho : s.heap.get? l = some o) (hc : o.cls = .type T) (hd : o.data = .seq vs.toArray n)
    (e : EachIs R vs bs) (er : EachIs (fun v b => ∃ as, Reads s.heap v (enc b) as) vs bs) (hal : AllAlike (bs.map enc)) (hk : Sortable (bs.map enc)) (hL : bs.length ≤ sizeLine) (hu : ∀ b, b ∈ bs → A.units + 2 + (enc b).depth < cLine)
    (h : ∀ (h' : Heap) (d : Addr) (out : List Value), (∀ b o, s.heap.get? b = some o → h'.get? b = some o) → s.heap.get? d = none → (∃ k, h'.get? d = some (seqObj "list" out.toArray k)) → out.length = bs.length → EachIs R out (bs.mergeSort (dataLe false enc)) → Q (.ref d) { s with heap := h' }) :
    wpAny (model prog w) A (call (.builtin "sorted") [.ref l]) Q E s := by
  have hz : vs.length ≤ sizeLine := e.length ▸ hL
  apply Calls.call_function_entry kind_sorted plain_sorted entry_sorted (args_sorted1 _)
  unfold Builtin.«sorted»
  apply wpAny_bind (m := checkCount "sorted" 1 1 _)
  apply wpAny_pure
  refine wpAny_bind (wpAny_collect_seq l hT ho hc hd (fun h1 k1 => ?_) (by simpa using hz))
  refine wpAny_bind (wpAny_newList ?_ (by simpa using hz))
  have at1 : (h1.push (seqObj "list" vs.toArray 0)).get? h1.objs.size = some (seqObj "list" vs.toArray 0) := Heap.get?_push_size _ rfl
  have kp : ∀ b o, s.heap.get? b = some o → (h1.push (seqObj "list" vs.toArray 0)).get? b = some o := fun b o z => Heap.get?_push_of_some _ (k1 b o z)
  change wpAny _ _ _ _ _ { s with heap := h1.push (seqObj "list" vs.toArray 0) }
  have nb : ∀ b o, s.heap.get? b = some o → b ≠ h1.objs.size := fun b o z => Nat.ne_of_lt (Heap.lt_size (k1 b o z))
  have er' : EachIs (fun v b => ∃ as, Reads (sortingHeap (h1.push (seqObj "list" vs.toArray 0)) h1.objs.size vs) v (enc b) as) vs bs := er.mono fun _ _ ⟨as, r⟩ => ⟨as, PyProof.Rows.Reads.keeps (fun b o z => sortingHeap_old (nb b o z) (kp b o z)) r⟩
  refine wpAny_bind (wpAny_holding (wpAny_call_entry slot_list_sort ⟨_, at1, rfl⟩ entry_list_sort (list_sort_vals (κ := dataKind (sortingHeap (h1.push (seqObj "list" vs.toArray 0)) h1.objs.size vs) (bs.map enc)) at1
    (SortsAt.data (s := { s with heap := sortingHeap (h1.push (seqObj "list" vs.toArray 0)) h1.objs.size vs }) (each_map (R := fun v d => ∃ as, Reads (sortingHeap (h1.push (seqObj "list" vs.toArray 0)) h1.objs.size vs) v d as) enc er') hal hk (bound_map hu)) hz ⟨.none, rfl, ?_⟩) (args_list_sort _)))
  refine wpAny_pure ⟨_, rfl, h _ _ _ (fun b o z => ?_) ?_ (sortedHeap_at at1) (by rw [sortVals_length false rfl]; exact e.length) (sortVals_data false e er' hal)⟩
  · rw [sortedHeap_old (nb b o z) (Heap.lt_size (kp b o z))]
    exact kp b o z
  · cases z : s.heap.get? h1.objs.size with
    | none => rfl
    | some o => exact absurd rfl (nb _ o z)
end SoX
end PySem
namespace L2
open PySem PySem.Spec PyProof.Rows
theorem ObjOk.some_at {P : Program} {w : World} {H : Hp} {h : Heap} {a : Addr} {o : HO} (x : ObjOk P w H h a o) : ∃ u, h.get? a = some u := by
  cases o with
  | lst xs => obtain ⟨_, _, _, _, e⟩ := x; exact ⟨_, e⟩
  | tup xs => obtain ⟨_, _, _, p, e, _⟩ := x; exact ⟨_, e⟩
  | dK kvs => obtain ⟨_, _, _, _, o, _, _, e, _⟩ := x; exact ⟨_, e⟩
  | dT kvs => obtain ⟨_, _, _, _, o, _, _, e, _⟩ := x; exact ⟨_, e⟩
  | set S n => obtain ⟨o, _, _, _, e, _⟩ := x; exact ⟨_, e⟩
  | ins C dx fs => obtain ⟨_, _, _, e, _⟩ := x; exact ⟨_, e⟩
  | own y => exact x
  | xd fs => obtain ⟨_, ⟨_, _, _, e, _⟩, _⟩ := x; exact ⟨_, e⟩
  | rng lo hi => obtain ⟨_, _, _, e⟩ := x; exact ⟨_, e⟩
  | frz ob u => exact ⟨_, x.1⟩
  | tbl ps => exact ⟨_, x⟩
  | met f y => exact ⟨_, x⟩
  | ext φ => exact x.2.1
theorem HOk.none_at {P : Program} {w : World} {H : Hp} {h : Heap} {a : Addr} (x : HOk P w H h) (e : h.get? a = none) : H a = none := by
  cases z : H a with
  | none => rfl
  | some o =>
    obtain ⟨u, q⟩ := (x a o z).some_at
    rw [e] at q
    cases q
section
variable {X : Cx} {β : Type} {enc : β → PyData}
open PySem.W (EachIs dataLe AllAlike Sortable)
theorem each_of {K : PySem.W.Frag} {H : Hp} {all : List V} : ∀ {vs : List V} {us : List Value} {bs : List β}, (∀ v ∈ vs, v ∈ all) → Vals vs us → Paired (fun v b => Dp K H v (enc b)) vs bs → EachIs (fun u b => ∃ v, RelV v u ∧ v ∈ all ∧ Dp K H v (enc b)) us bs
  | _, _, _, _, .nil, .nil => .nil
  | _, _, _, m, .cons r rr, .cons d dd => .cons ⟨_, r, m _ (List.mem_cons_self ..), d⟩ (each_of (fun v hv => m v (List.mem_cons_of_mem _ hv)) rr dd)
theorem of_each {K : PySem.W.Frag} {H : Hp} {all : List V} : ∀ {us : List Value} {bs : List β}, EachIs (fun u b => ∃ v, RelV v u ∧ v ∈ all ∧ Dp K H v (enc b)) us bs → ∃ vs, Vals vs us ∧ Paired (fun v b => Dp K H v (enc b) ∧ v ∈ all) vs bs
  | _, _, .nil => ⟨[], .nil, .nil⟩
  | _, _, .cons ⟨v, r, m, d⟩ t => by
    obtain ⟨vs, h1, h2⟩ := of_each t
    exact ⟨v :: vs, .cons r h1, .cons ⟨d, m⟩ h2⟩
/-- sorted(x), x a list or a tuple of data that read as bs by enc: a new list of these, in the order of their data -/
def rSortA (K : PySem.W.Frag) (enc : β → PyData) : List V → Hp → VK → Prop := fun xs H Q => ∃ (a : Addr) (vs : List V) (bs : List β), xs = [.ref a] ∧ (SqL K H a vs ∨ SqT K H a vs) ∧ Paired (fun v b => Dp K H v (enc b)) vs bs ∧
  AllAlike (bs.map enc) ∧ Sortable (bs.map enc) ∧ (∀ b ∈ bs, (enc b).depth ≤ 50) ∧
  ∀ (ys : List V) (p : Addr), H p = none → Paired (fun v b => Dp K H v (enc b) ∧ v ∈ vs) ys (bs.mergeSort (dataLe false enc)) → Q (.ref p) (upd H p (.lst ys))
theorem cr_sortA (hu : X.A.units + 64 < cLine) : CallR X (.builtin "sorted") (rSortA X.K enc) := by
  intro pins s σ H xs us Q I r h
  obtain ⟨a, vs, bs, rfl, hs, hp, hal, hk, hdp, q⟩ := h
  cases r with
  | cons rx rr =>
    cases rr
    cases rx
    obtain ⟨T, o, its, n, hT, ho, hc, hd, rv, hz⟩ : ∃ (T : String) (o : Obj) (its : List Value) (n : Nat), (T = "list" ∨ T = "tuple") ∧ s.heap.get? a = some o ∧ o.cls = .type T ∧ o.data = .seq its.toArray n ∧ Vals vs its ∧ vs.length ≤ sizeLine := by
      rcases hs with hs | hs
      · obtain ⟨its, rv, ⟨o, n, ho, hc, _, hd⟩, hz⟩ := I.list hs
        exact ⟨"list", o, its, n, .inl rfl, ho, hc, hd, rv, hz⟩
      · obtain ⟨its, rv, ⟨o, ho, hc, n, hd⟩, hz⟩ := I.tuple hs
        exact ⟨"tuple", o, its, n, .inr rfl, ho, hc, hd, rv, hz⟩
    have e := each_of (all := vs) (fun v hv => hv) rv hp
    have er : EachIs (fun v b => ∃ as, Reads s.heap v (enc b) as) its bs := e.mono fun u b ⟨v, rv, _, dv⟩ => Dp.reads I _ _ _ dv rv
    refine PySem.SoX.sorted_seq hT ho hc hd e er hal hk ?_ (fun b hb => ?_) fun h' d out kp nd hn hlen eo => ?_
    · rw [← e.length, ← rv.length]
      exact hz
    · have := hdp b hb
      omega
    · obtain ⟨ys, ry, py⟩ := of_each eo
      obtain ⟨k, hn⟩ := hn
      have nH := I.hok.none_at nd
      have lz : ys.length ≤ sizeLine := by
        rw [ry.length, hlen, ← e.length, ← rv.length]
        exact hz
      have J := I.laidN (h' := h') (o := .lst ys) (t' := s.toks) kp nd nH ⟨lz, out, k, ry, hn⟩
      exact ⟨.ref d, _, J, rfl, q ys d nH py⟩
end
end L2
set_option Elab.async false
set_option linter.all false
set_option maxRecDepth 100000
set_option maxHeartbeats 2000000
namespace L2
open PySem PySem.Spec PyProof.Rows
/-! ### x in t, t a tuple of data -/
section
variable {X : Cx}
def rInTD (K : PySem.W.Frag) (neg : Bool) : R2 := fun x y H Q => ∃ d ds, Dp K H x d ∧ Dp K H y (.tuple ds) ∧ SeqAt.shaped d = true ∧ SeqAt.shaped (.tuple ds) = true ∧ Q (.bl ((ds.any fun z => PyData.eqv z d) != neg)) H
theorem op_inTD (hu : X.A.units + 65 < cLine) : OpR X (compareOp .In) (rInTD X.K false) := by
  intro pins s σ H x y v u Q I rx ry h
  obtain ⟨d, ds, dx, dy, sx, sy, q⟩ := h
  obtain ⟨as, rdx⟩ := Dp.reads I d x v dx rx
  obtain ⟨bs, rdy⟩ := Dp.reads I (.tuple ds) y u dy ry
  refine SeqAt.in_tuple_reads rdy rdx (SeqAt.canLay_of_shaped sy) (SeqAt.canLay_of_shaped sx) (room_in_shaped sx hu) ⟨.bl _, H, I, rfl, ?_⟩
  simpa using q
theorem op_notInTD (hu : X.A.units + 65 < cLine) : OpR X (compareOp .NotIn) (rInTD X.K true) := by
  intro pins s σ H x y v u Q I rx ry h
  obtain ⟨d, ds, dx, dy, sx, sy, q⟩ := h
  obtain ⟨as, rdx⟩ := Dp.reads I d x v dx rx
  obtain ⟨bs, rdy⟩ := Dp.reads I (.tuple ds) y u dy ry
  refine SeqAt.notIn_tuple_reads rdy rdx (SeqAt.canLay_of_shaped sy) (SeqAt.canLay_of_shaped sx) (room_in_shaped sx hu) ⟨.bl _, H, I, rfl, ?_⟩
  simpa using q
end
/-! ### enumerate over a tuple -/
/-- the items of the tuple at a, each in a new pair -/
def Iet (K : PySem.W.Frag) (a : Addr) : It :=
  ⟨fun i H => ∃ (xs : List V) (x : V), SqT K H a xs ∧ xs[i]? = some x, fun i H v H' => ∃ T x, v = .ref T ∧ H T = none ∧ H' = upd H T (.tup [.int (i : Nat), x]) ∧ ∀ xs, SqT K H a xs → xs[i]? = some x, fun i H => ∃ xs : List V, SqT K H a xs ∧ xs.length = i⟩
theorem tuple_inj {X : Cx} {pins : List (Addr × Obj)} {σ : St} {H : Hp} {s : Shared} {a : Addr} {xs ys : List V} (I : Inv X pins σ H s) (h1 : SqT X.K H a xs) (h2 : SqT X.K H a ys) : xs = ys := by
  obtain ⟨us, r1, ⟨o, e1, _, n1, d1⟩, _⟩ := I.tuple h1
  obtain ⟨ws, r2, ⟨p, e2, _, n2, d2⟩, _⟩ := I.tuple h2
  rw [e1] at e2
  cases e2
  rw [d1] at d2
  cases d2
  exact r1.inj r2
theorem turn_enumT {P : Program} {w : World} {K : PySem.W.Frag} {elts : List Expr} {kk : Nat} {tpos : Pos} (a e it : Addr) :
    Turn P w K (.Tuple elts kk tpos) (Iet K a) [e, it] e (fun i h => (∃ old, IsEnum h e it ((i : Nat) : Int) old) ∧ h.IsTupleIter it a i ∧ e ≠ it ∧ a ≠ it ∧ a ≠ e) where
  mem := by simp
  obj := by
    rintro i h ⟨⟨old, he⟩, ⟨o, ho, hc, hd⟩, _⟩ b hb
    rcases List.mem_cons.mp hb with rfl | hb
    · exact ⟨_, he, fun v q => by cases q⟩
    · cases List.mem_singleton.mp hb
      exact ⟨o, ho, fun v q => by rw [hd] at q; cases q⟩
  keep := by
    rintro i h h' ⟨⟨old, he⟩, hi, ne⟩ k
    exact ⟨⟨old, k e (by simp) _ he⟩, hi.at fun o q => k it (by simp) o q, ne⟩
  item := by
    intro X hP hw hK hc i pins s σ H E I hf st hg
    subst hP hw hK
    obtain ⟨⟨old, he⟩, hit, hne, hai, hae⟩ := st
    obtain ⟨xs, x, hq, hx⟩ := hg
    obtain ⟨its, rv, p, hz⟩ := I.tuple hq
    obtain ⟨u, hu, ru⟩ := rv.get hx
    have e_lt : e < s.heap.objs.size := Heap.lt_size he
    have it_lt : it < s.heap.objs.size := by
      obtain ⟨_, q, _⟩ := hit
      exact Heap.lt_size q
    have i_lt : i < its.toArray.size := by
      rw [List.size_toArray]
      exact (List.getElem?_eq_some_iff.mp hu).1
    refine wpAny_pyNext_enum_itemD (Draws.tuple (A := X.A.in1) (I.ok.hd hc) it a hai its.toArray) he ⟨hit, p⟩ i_lt hne (by simp [hne, Ne.symm hae]) fun y h' tk hy ho st' hT hsz hk => ?_
    obtain rfl : y = u := by
      have : its.toArray[i]? = some y := hy
      rw [List.getElem?_toArray, hu] at this
      cases this
      rfl
    refine ⟨_, rfl, wpAny_letOwnedTupleGo_enum (s := { s with heap := h', toks := tk + 1 }) ho fun h'' he' sb => ?_⟩
    have at_T : h''.get? s.heap.objs.size = some { cls := .type "tuple", data := .seq #[.int i tk, y] } := (sb.2 _ (Nat.ne_of_gt e_lt)).trans hT
    have J : Inv X pins σ (upd H s.heap.objs.size (.tup [.int (i : Nat), x])) { s with heap := h'', toks := tk + 1 } :=
      I.turnedNew (ch := [e, it]) (fun b ob hb q => (sb.2 b (fun z => hb (by simp [z]))).trans (hk b ob (fun z => hb (by simp [z])) (fun z => hb (by simp [z])) q)) hf (Nat.le_refl _)
        ⟨by show 2 ≤ sizeLine; decide, [.int i tk, y], .cons ⟨_, rfl⟩ (.cons ru .nil), ⟨_, at_T, rfl, _, rfl⟩⟩
    refine ⟨.ref s.heap.objs.size, _, J, rfl, ⟨_, x, rfl, I.hok.fresh (Nat.le_refl _), rfl, fun ys hy => by rw [tuple_inj I hy hq]; exact hx⟩, ⟨⟨y, ?_⟩, st'.1.at fun o q => (sb.2 it (Ne.symm hne)).trans q, hne, hai, hae⟩, fun b hb => ?_⟩
    · rw [show ((i + 1 : Nat) : Int) = (i : Int) + 1 by omega]
      exact he'
    · have b_lt : b < s.heap.objs.size := by
        rcases List.mem_cons.mp hb with rfl | hb
        · exact e_lt
        · cases List.mem_singleton.mp hb
          exact it_lt
      rw [upd_ne (Nat.ne_of_lt b_lt)]
      exact (hf b hb).1
  done := by
    intro X hP hw hK hc i pins s σ H E I hf st hg
    subst hP hw hK
    obtain ⟨⟨old, he⟩, hit, hne, hai, hae⟩ := st
    obtain ⟨xs, hq, rfl⟩ := hg
    obtain ⟨its, rv, p, hz⟩ := I.tuple hq
    obtain ⟨f0, f1, f2, f3, f4, f5⟩ := hf it (by simp)
    have hl : its.toArray.size = xs.length := by
      rw [List.size_toArray]
      exact rv.length.symm
    exact wpAny_pyNext_enum_endD (Draws.tuple (A := X.A.in1) (I.ok.hd hc) it a hai its.toArray) he ⟨hl.symm ▸ hit, p⟩ fun h' eb => ⟨rfl, I.turned (t' := s.toks) (fun b o hb q => eb b o hb q) f0 f1 f3 f4 f5⟩
  self := by
    rintro A i s Q E ⟨⟨_, he⟩, _⟩ h
    exact wpAny_pyIter_enum he h
def iEnumT (K : PySem.W.Frag) (ta : TA) : TI := fun σ H R => ta σ H fun vs H1 => ∃ a xs, vs = [.ref a] ∧ SqT K H1 a xs ∧ R (Iet K a) H1
theorem walk_enumT {K : PySem.W.Frag} {a : Addr} {xs : List V} : Walk (Iet K a) xs.length (fun H => SqT K H a xs) (YPair (fun i => some (.int (i : Nat))) (fun i => xs[i]?)) := by
  refine ⟨fun i H hi q => ⟨xs, xs[i], q, by simp [hi]⟩, fun H q => ⟨xs, q, rfl⟩, fun i H v H' hi q y => ?_⟩
  obtain ⟨T, x, h1, h2, h3, h4⟩ := y
  exact ⟨T, .int (i : Nat), x, h1, h2, h3, rfl, h4 xs q⟩
end L2
set_option Elab.async false
set_option linter.all false
set_option maxRecDepth 100000
set_option maxHeartbeats 2000000
namespace PySem
namespace EnX
open PySem.W PyProof.Rows
/-- enumerate(v), v any value whose iterator is known -/
theorem meets_new1 {v : Value} {o : Obj} {H : Heap → Prop} (B : Begins v o H) :
    Meets (Builtin.«enumerate.__new__» ⟨[.type "enumerate", v], []⟩) (fun _ R s => H s.heap ∧
      R (.ok (.ret (.ref (s.heap.push o).objs.size))) { s with heap := (s.heap.push o).push { cls := .type "enumerate", data := .fields #[.none, .bool false, .ref s.heap.objs.size, rawInt 0, .none, .none] } }) :=
  .of_wp fun prog w A R s h => by
    obtain ⟨hp, g, d, tk, os⟩ := s
    obtain ⟨h1, h⟩ := h
    have is_sub := sub_enumerate
    have it : ∀ {A' : Around} {E : Value → Shared → Prop} {Q : Value → Shared → Prop}, Q (.ref hp.objs.size) ⟨hp.push o, g, d, tk, os⟩ → wpAny (model prog w) A' (pyIter v) Q E ⟨hp, g, d, tk, os⟩ :=
      fun q => B.iter prog w _ _ ⟨hp, g, d, tk, os⟩ _ h1 q
    wp_walk using it
    refine wpAny_stack_any fun st => wpAny_pure ?_
    split
    · rename_i c _ _ _ _ _
      cases (c == Value.type "enumerate") <;> (wp_walk using it; exact ⟨_, rfl, h⟩)
    · wp_walk using it
      exact ⟨_, rfl, h⟩
theorem begins1 {prog : Program} {w : World} {A : Around} {E : Value → Shared → Prop} {s : Shared} {v : Value} {o : Obj} {H : Heap → Prop} {Q : Value → Shared → Prop} (B : Begins v o H) (h1 : H s.heap)
    (h : ∀ h', IsEnum h' (s.heap.objs.size + 1) s.heap.objs.size 0 .none → h'.get? s.heap.objs.size = some o → (∀ b o, s.heap.get? b = some o → h'.get? b = some o) → Q (.ref (s.heap.objs.size + 1)) { s with heap := h' }) :
    wpAny (model prog w) A (call (.type "enumerate") [v]) Q E s := by
  refine callType_new F.called_enumerate (by decide) (F.typeCall_enumerate_1 _) (F.newCall_enumerate_1 _) (fun obj => F.args_object_init_2 obj _) F.entry_enumerate_new (meets_new1 B) ⟨h1, ?_⟩
  have sz : (s.heap.push o).objs.size = s.heap.objs.size + 1 := Heap.size_push ..
  show _ ∧ _
  rw [sz]
  have he : IsEnum ((s.heap.push o).push { cls := .type "enumerate", data := .fields #[.none, .bool false, .ref s.heap.objs.size, rawInt 0, .none, .none] }) (s.heap.objs.size + 1) s.heap.objs.size 0 .none := by
    have z := Heap.get?_push_size (s.heap.push o) (o := { cls := .type "enumerate", data := .fields #[.none, .bool false, .ref s.heap.objs.size, rawInt 0, .none, .none] }) rfl
    rwa [sz] at z
  exact ⟨⟨_, he, rfl⟩, h _ he (Heap.get?_push_of_some _ (Heap.get?_push_size _ B.free)) fun b u q => Heap.get?_push_of_some _ (Heap.get?_push_of_some _ q)⟩
end EnX
end PySem
namespace L2
open PySem PySem.Spec PyProof.Rows
theorem pi_enumT {X : Cx} {e : Expr} {ta : TA} {p pos tpos : Pos} {elts : List Expr} {kk : Nat} (hg : Gl X "enumerate") (hm : X.mg "enumerate" = none) (ha : PA X [e] ta) (hs : starEach [e] X.env = [(false, eval e X.env)] := by rfl) :
    PI X (.Tuple elts kk tpos) (.Call (.Name "enumerate" p) [e] [] pos) (iEnumT X.K ta) := by
  constructor
  intro pins s σ H R I h
  refine Call_ (ld_blt I hg hm boot_enumerate (PyProof.Rows.callWith_type1 (thn (ha.run pos pins s σ H _ I h) fun us s1 z => ?_) hs rfl))
  obtain ⟨vs, H1, I1, r1, a, xs, rfl, hq, q⟩ := z
  cases r1 with
  | cons r rr =>
    cases rr
    cases r
    obtain ⟨its, rv, p', hz⟩ := I1.tuple hq
    refine PySem.EnX.begins1 (begins_tuple a its.toArray) p' fun h' he hit hk => wpAny_pyIter_enum he ?_
    have a_lt : a < s1.heap.objs.size := by
      obtain ⟨o, e, _⟩ := p'
      exact Heap.lt_size e
    have I2 : Inv X pins σ H1 { s1 with heap := h' } := I1.kept (t' := s1.toks) hk
    refine ⟨s1.heap.objs.size + 1, [s1.heap.objs.size + 1, s1.heap.objs.size], _, _, H1, rfl, I2, turn_enumT a (s1.heap.objs.size + 1) s1.heap.objs.size, ⟨⟨.none, he⟩, ⟨_, hit, rfl, rfl⟩, Nat.succ_ne_self _, Nat.ne_of_lt a_lt, Nat.ne_of_lt (Nat.lt_succ_of_lt a_lt)⟩, fun b hb => ?_, q⟩
    have le : s1.heap.objs.size ≤ b := by
      rcases List.mem_cons.mp hb with rfl | hb
      · exact Nat.le_succ _
      · cases List.mem_singleton.mp hb
        exact Nat.le_refl _
    exact I1.fpOk le (I1.hok.fresh le)
/-! ### classes called with a star, or with nothing; staticmethods -/
section
variable {X : Cx} {CX : CXT} {k i : Nat} {f C : Addr} {sp : Sp} {E : XK} {x m : Str} {e o : Expr} {es : List Expr} {te ta : TE} {t : TA} {p sp_ pos apos : Pos}
open StX
/-- C(*y) -/
theorem pe_makeS (M : Mk X.K C f) (F : FnR X.prog X.w X.K X.mg X.base CX k f sp) (hr : Room (k + 1) X.A) (hg : Gl X x) (hm : X.mg x = some (.ref C)) (hx : Passes CX X E) (he : PE X e te) (hdb : (x == ("__debug__" : Str)) = false := by decide)
    (hst : starEach [.Starred e sp_] X.env = [(true, eval e X.env)] := by rfl) :
    PE X (.Call (.Name x p) [.Starred e sp_] [] pos) (fun σ H Q => te σ H fun y H1 => ∃ a xs, y = V.ref a ∧ (SqT X.K H1 a xs ∨ SqL X.K H1 a xs) ∧ ∀ z dz, H1 z = none → H1 dz = none → dz ≠ z → sp (V.ref z :: xs) (upd (upd H1 dz (.own z)) z (.ins C dz [])) (fun v H2 => v = .non ∧ Q (.ref z) H2) E) := by
  constructor
  intro pins s σ H Q I h
  refine wpAny_Call_Name_kw (ld_glob I hg hm ?_ hdb)
  refine PySem.W.callWith_S (h₀ := X.base) I.ok.mod.kin M.kp (thn (he.run pins s σ H _ I h) fun v s1 z => ?_) hst
  obtain ⟨y, H1, I1, ry, a, xs, rfl, hxs, q⟩ := z
  cases ry
  exact star_any I1 hxs fun us s2 I2 rv => ⟨I2.kIn, run_makeR M F hr hx I2 rv q⟩
/-- C(e, .., *y) -/
theorem pe_makeS2 (M : Mk X.K C f) (F : FnR X.prog X.w X.K X.mg X.base CX k f sp) (hr : Room (k + 1) X.A) (hg : Gl X x) (hm : X.mg x = some (.ref C)) (hx : Passes CX X E) (ha : PA X (e :: es) t) (hdb : (x == ("__debug__" : Str)) = false := by decide)
    (hst : ∀ {M : Model} {A : Around} {E : Value → Shared → Prop} {s : Shared} {Q : Value → Shared → Prop}, PySem.W.keepIn X.K (.ref C) = true → wpAny M A (spliced (backTo pos (starEach (e :: es) X.env))) (fun vs s₁ => X.K.In s₁.heap ∧ wpAny M A (call (.ref C) ([] ++ vs)) Q E s₁) E s → wpAny M A (callWith pos (.ref C) [] (backTo pos (starEach (e :: es) X.env)) []) Q E s) :
    PE X (.Call (.Name x p) (e :: es) [] pos) (tMakeR C sp E t) := by
  constructor
  intro pins s σ H Q I h
  refine wpAny_Call_Name_kw (ld_glob I hg hm ?_ hdb)
  refine hst M.kp (thn (ha.run pos pins s σ H _ I h) fun us s1 z => ?_)
  obtain ⟨vs, H1, I1, r, q⟩ := z
  exact ⟨I1.kIn, run_makeR M F hr hx I1 r q⟩
end
end L2
set_option Elab.async false
set_option linter.all false
set_option maxRecDepth 100000
set_option maxHeartbeats 2000000
namespace L2
open PySem PySem.Spec PyProof.Rows
open ClX StX
/-! ### a class made of nothing; staticmethods of a class -/
/-- C.m is a staticmethod: its record at p, its def at g -/
structure SMet (K : PySem.W.Frag) (C : Addr) (mc : Value) (m : Str) (p g : Addr) : Prop where
  at_ : PySem.W.findCls K (.ref C) mc m = some (.get (.builtin "staticmethod.__get__") (.ref p) .none (.ref C))
  rc : ∃ rest, PySem.W.recIn K p "staticmethod" = some (.ref g :: rest)
  kp : PySem.W.keepIn K (.ref g) = true
section
variable {X : Cx} {CX : CXT} {k : Nat} {f C p g : Addr} {mc : Value} {sp : Sp} {E : XK} {o e : Expr} {es : List Expr} {kws : List Keyword} {x m : Str} {pos apos p0 : Pos} {ta : TE} {t tk : TA} {pl : Sem Bool} {fd : FuncData} {ps ks : List Str}
  {gG : List Value → List Value → List Value} {gV : List V → List V → List V}
theorem pe_makeR0 (M : Mk X.K C f) (F : FnR X.prog X.w X.K X.mg X.base CX k f sp) (hr : Room (k + 1) X.A) (hg : Gl X x) (hm : X.mg x = some (.ref C)) (hx : Passes CX X E) (hdb : (x == ("__debug__" : Str)) = false := by decide) : PE X (.Call (.Name x p0) [] [] pos) (tMakeR C sp E tNil) := by
  constructor
  intro pins s σ H Q I h
  refine wpAny_Call_Name_kw (ld_glob I hg hm ?_ hdb)
  exact PySem.W.callWith_K0 I.kIn M.kp (run_makeR (us := []) M F hr hx I .nil h)
theorem get_sm {pins : List (Addr × Obj)} {σ : St} {H : Hp} {s : Shared} {A : Around} {E : Value → Shared → Prop} {Q : Value × List Value → Shared → Prop} (I : Inv X pins σ H s) (r : CRead X.K C mc) (c : SMet X.K C mc m p g)
    (h : ∀ s', Inv X pins σ H s' → Q (.ref g, []) s') : wpAny (model X.prog X.w) A (getMethod (.ref C) m pl) Q E s := by
  obtain ⟨rest, hp⟩ := c.rc
  refine PySem.W.method_cls I.kIn r.ga (PySem.W.cls_bind I.kIn r.rd c.at_ (wpAny_call (PySem.W.sm_get (s := { s with toks := s.toks + 1 }) I.kIn hp (PySem.W.handed_on rfl ?_))))
  exact h _ (I.tok _)
def tSMeth (C : Addr) (sp : Sp) (E : XK) (ta : TE) (t : TA) : TE := fun σ H Q => ta σ H fun x H1 => x = .ref C ∧ t σ H1 fun vs H2 => sp vs H2 Q E
/-- C.m(e, ..) -/
theorem pe_smeth (he : PE X o ta) (r : CRead X.K C mc) (c : SMet X.K C mc m p g) (F : FnOk X.prog X.w X.K X.mg X.base CX k g fd ps sp) (hr : Room k X.A) (hb : Binds X.K fd ps []) (hx : Passes CX X E) (ha : PA X (e :: es) t)
    (hst : starEach (e :: es) X.env = (false, eval e X.env) :: starEach es X.env := by rfl) (hpl : (backTo pos (starEach es X.env)).any (·.1) = false := by rfl)
    (ht : eval (.Call (.Attribute o m apos) (e :: es) [] pos) X.env = (do
      let ov ← eval o X.env
      standAt apos.atName
      let (f, first) ← holding [ov] (getMethod ov m pl)
      callWith pos f first (backTo pos (starEach (e :: es) X.env)) (backToKw pos (keywordEach [] X.env))) := by rfl) :
    PE X (.Call (.Attribute o m apos) (e :: es) [] pos) (tSMeth C sp E ta t) := by
  constructor
  intro pins s σ H Q I h
  refine PySem.W.methodCall_KW (pl := pl) (thn (he.run pins s σ H _ I h) fun u s1 z => ?_) ht
  obtain ⟨x, H1, I1, rx, rfl, q⟩ := z
  cases rx
  refine get_sm I1 r c fun s2 I2 => ?_
  refine PySem.W.callWith_K (h₀ := X.base) I.ok.mod.kin c.kp (thn (ha.run pos pins s2 σ H1 _ I2 q) fun us s3 z => ?_) hst hpl
  obtain ⟨vs, H2, I3, rv, q2⟩ := z
  exact ⟨I3.kIn, run_fn F hr hb .nil hx I3 rv (by rw [List.append_nil]; exact q2)⟩
/-- C.m(k = v, ..) -/
theorem pe_smethK (he : PE X o ta) (r : CRead X.K C mc) (c : SMet X.K C mc m p g) (F : FnOk X.prog X.w X.K X.mg X.base CX k g fd ps sp) (hr : Room k X.A) (hb : KBinds X.K fd ps ks gG gV) (hx : Passes CX X E) (hkw : PK X kws tk)
    (hall : (backToKw pos (keywordEach kws X.env)).all (·.1.isSome) = true := by rfl) (hks : (backToKw pos (keywordEach kws X.env)).filterMap (·.1) = ks := by rfl)
    (hpl : ((backTo pos (starEach [] X.env)).any (·.1) || (backToKw pos (keywordEach kws X.env)).any (·.1.isNone)) = false := by rfl)
    (ht : eval (.Call (.Attribute o m apos) [] kws pos) X.env = (do
      let ov ← eval o X.env
      standAt apos.atName
      let (f, first) ← holding [ov] (getMethod ov m pl)
      callWith pos f first (backTo pos (starEach [] X.env)) (backToKw pos (keywordEach kws X.env))) := by rfl) :
    PE X (.Call (.Attribute o m apos) [] kws pos) (fun σ H Q => ta σ H fun x H1 => x = .ref C ∧ tk σ H1 fun zs H2 => sp (gV [] zs) H2 Q E) := by
  constructor
  intro pins s σ H Q I h
  refine PySem.W.methodCall_KW (pl := pl) (thn (he.run pins s σ H _ I h) fun u s1 z => ?_) ht
  obtain ⟨x, H1, I1, rx, rfl, q⟩ := z
  cases rx
  refine get_sm I1 r c fun s2 I2 => ?_
  refine PySem.W.callWith_KW0 (h₀ := X.base) I.ok.mod.kin c.kp hall ?_ hpl
  refine thn (hkw.run pos pins s2 σ H1 _ I2 q) fun ws s3 z => ?_
  obtain ⟨zs, H2, I3, rz, q2⟩ := z
  rw [hks]
  exact ⟨I3.kIn, run_fnk (us := []) (vs := []) F hr hb hx I3 .nil rz q2⟩
end
/-! ### a dict comprehension, its keys ints, texts or tuples of these -/
theorem put_comp {X : Cx} {pins : List (Addr × Obj)} {σ : St} {H H' : Hp} {s : Shared} {E : Value → Shared → Prop} {D : Addr} {y v : V} {u r : Value} {Q : Unit → Shared → Prop} (hu : X.A.units < cLine) (I : Inv X pins σ H s) (g : DPut H D y v H')
    (ry : RelV y u) (rv : RelV v r) (h : ∀ s', Inv X pins σ H' s' → Q () s') : wpAny (model X.prog X.w) X.A (dictSet D u r) Q E s := by
  rcases g with ⟨kvs, k, e, rfl, l, rfl⟩ | ⟨kvs, k, b, e, rfl, eb, l, rfl⟩
  · exact d_dictSet I e l ry rv h
  · cases ry
    obtain ⟨z, hd, xs, rel, dd⟩ := dt_of I.hok e
    have small : xs.length ≤ sizeLine := by
      rw [← Paired.length rel]
      exact z
    have fits : (putK kvs k v).length ≤ sizeLine := by
      have := length_putK kvs k v
      omega
    refine wpAny_dictSet_heap (hsz := small) hu (key_of I.hok eb) dd fun h' dd' hs => h _ ?_
    obtain ⟨q, es, ep, hq, h2, h3, h4, _, h5⟩ := dd'
    refine d_write I (by rw [e]; exact True.intro) hs ⟨q, hq⟩ ⟨fits, hd, _, (rel.put k eb rv).keeps fun c ys ec => ?_, q, es, ep, hq, h2, h3, h4, h5⟩
    rw [upd_ne (ne_of ec e (fun z => nomatch z))]
    exact ec
def tDcT (wi : TI) (g : TG) (tt : TT) (tk tv : TE) (vs : List Nat) : TE := fun σ H Q => wi σ H fun J H1 => ∀ D, H1 D = none → ∃ W : Nat → Nat → Hp → Prop, (∃ m, W 0 m (upd H1 D (.dT []))) ∧ ∀ i m H, W i m H →
  (J.stop i H ∧ Q (.ref D) H) ∨ (J.go i H ∧ ∃ Nx : Hp → Prop, (∀ H', Nx H' → ∃ m', m' < m ∧ W (i + 1) m' H') ∧ ∀ x H', J.yld i H x H' → g x (wipe σ vs) H' fun σ2 H2 => wipe σ2 vs = wipe σ vs ∧ tt σ2 H2 fun b H3 =>
    if b = true then tk σ2 H3 fun y H4 => tv σ2 H4 fun z H5 => ∃ H6, DPut H5 D y z H6 ∧ Nx H6 else Nx H3)
section
variable {X : Cx} {kx vx tg iter : Expr} {ifs : List Expr} {scope : Scope} {own : List (Str × Nat)} {pos pos' : Pos} {wi : TI} {g : TG} {tt : TT} {tk tv : TE}
theorem pe_dcT (hu : X.A.units < cLine) (hc : X.calm = true) (nd : X.N.Nodup) (hi : PI X tg iter wi) (ok : BlkOk X.N X.env.scope scope own) (hg : ∀ (s : Shared) (H : Hp) (C : Addr) (cl : List (Str × Addr)) (fp : List Addr), PG (X.blk s H scope (compEnvC scope cl C X.env) fp) tg g)
    (ht : ∀ (s : Shared) (H : Hp) (C : Addr) (cl : List (Str × Addr)) (fp : List Addr), PTs (X.blk s H scope (compEnvC scope cl C X.env) fp) ifs tt) (hk : ∀ (s : Shared) (H : Hp) (C : Addr) (cl : List (Str × Addr)) (fp : List Addr), PE (X.blk s H scope (compEnvC scope cl C X.env) fp) kx tk)
    (hv : ∀ (s : Shared) (H : Hp) (C : Addr) (cl : List (Str × Addr)) (fp : List Addr), PE (X.blk s H scope (compEnvC scope cl C X.env) fp) vx tv) (hs : ∀ x, foldedSetIterable iter X.env x = pure x := by intro _; rfl) :
    PE X (.DictComp kx vx [⟨tg, iter, ifs, 0⟩] scope pos) (tDcT wi g tt tk tv (own.map (·.2))) := by
  constructor
  intro pins s σ H Q I h
  rw [arm_eval_DictComp]
  have cellOf : ∀ y ∈ scope.names, y.2 = .free → ∃ c, X.env.cells.lookup y.1 = some c := fun y hy e => (ok.free y hy e).elim (fun k => I.ok.has _ (.inl k)) fun k => I.ok.has _ (.inr k)
  apply wpAny_comprehension_free rfl hs (closure_ok cellOf) ok.kind (fun y hy e => by rw [ok.uniq y hy, e])
  refine thn (hi.run pins s σ H _ I h) fun xv s1 first => thn first fun itv s2 second => ?_
  obtain ⟨it, fp, tn, J, HA, rfl, IA, TR, stA, fpA, plan⟩ := second
  refine wpAny_newObj_type (newEnv_comp ?_)
  generalize eD : s2.heap.objs.size = D
  have freeD : HA D = none := IA.hok.fresh (Nat.le_of_eq eD)
  obtain ⟨W, ⟨m0, w0⟩, turn⟩ := plan D freeD
  generalize eB : ({ s2 with heap := s2.heap.push { cls := .type "dict", data := .dict #[] } } : Shared) = sB
  have heapB : sB.heap = s2.heap.push { cls := .type "dict", data := .dict #[] } := by rw [← eB]
  have IB : Inv X pins σ (upd HA D (.dT [])) sB := by
    rw [← eB]
    refine IA.laid (t' := s2.toks) (fun b o e => Heap.get?_push_of_some _ e) (Nat.le_of_eq eD) ?_
    rw [← eD]
    exact dt_empty s2.heap IA.big
  have fpB : ∀ b ∈ fp, FpOk X pins (upd HA D (.dT [])) b ∧ b < sB.heap.objs.size := by
    intro b hb
    obtain ⟨o, e, _⟩ := TR.obj _ _ stA b hb
    have lt := Heap.lt_size e
    refine ⟨⟨?_, (fpA b hb).2⟩, ?_⟩
    · rw [upd_ne (by rw [← eD]; exact Nat.ne_of_lt lt)]
      exact (fpA b hb).1
    · rw [heapB, Heap.size_push]
      exact Nat.lt_succ_of_lt lt
  have stB : tn 0 sB.heap := TR.keep _ _ _ stA fun b _ o e => by
    rw [heapB]
    exact Heap.get?_push_of_some _ e
  have IC := block_start IB ok nd fpB
  have rules := And.intro (hg sB (upd HA D (.dT [])) sB.heap.objs.size (cellsFrom (sB.heap.objs.size + 1) scope.names (cloFrom X.env.cells scope.names [])) fp)
    (And.intro (ht sB (upd HA D (.dT [])) sB.heap.objs.size (cellsFrom (sB.heap.objs.size + 1) scope.names (cloFrom X.env.cells scope.names [])) fp)
      (And.intro (hk sB (upd HA D (.dT [])) sB.heap.objs.size (cellsFrom (sB.heap.objs.size + 1) scope.names (cloFrom X.env.cells scope.names [])) fp) (hv sB (upd HA D (.dT [])) sB.heap.objs.size (cellsFrom (sB.heap.objs.size + 1) scope.names (cloFrom X.env.cells scope.names [])) fp)))
  generalize eR : compPost (model X.prog X.w) X.A X.xe (none : Option (Value → Sem Unit)) (EP X pins σ Q) (.ref D) sB.heap.objs.size = RR
  show codeAny _ _ (.compStart (.DictComp kx vx [⟨tg, iter, ifs, 0⟩] scope pos) 0 (.ref it) (.ref D) (compEnvC scope (cellsFrom (sB.heap.objs.size + 1) scope.names (cloFrom X.env.cells scope.names [])) sB.heap.objs.size X.env))
    (compPost (model X.prog X.w) X.A X.xe (none : Option (Value → Sem Unit)) (EP X pins σ Q) (.ref D) sB.heap.objs.size) { sB with heap := pushCells (sB.heap.push { cls := .type "dict", data := .dict #[] }) scope.names }
  rw [eR]
  have noneB : ∀ b ∈ fp, (upd HA D (.dT [])) b = none := fun b hb => (fpB b hb).1.1
  generalize eE : compEnvC scope (cellsFrom (sB.heap.objs.size + 1) scope.names (cloFrom X.env.cells scope.names [])) sB.heap.objs.size X.env = env2 at IC rules ⊢
  have locE : env2.locals = sB.heap.objs.size := by
    subst eE
    rfl
  generalize eH : upd HA D (.dT []) = HB at IB IC rules w0 noneB fpB
  generalize eC : ({ sB with heap := pushCells (sB.heap.push { cls := .type "dict", data := .dict #[] }) scope.names } : Shared) = sC at IC ⊢
  obtain ⟨rg, rt, rk, rv⟩ := rules
  have stC : tn 0 sC.heap := TR.keep _ _ _ stB fun b _ o e => by
    rw [← eC]
    exact pushCells_keeps _ _ _ _ (Heap.get?_push_of_some _ e)
  have still : ∀ {σ' : St} {H' : Hp} {s' : Shared}, Inv (X.blk sB HB scope env2 fp) [] σ' H' s' → (∀ b ∈ fp, H' b = none) → ∀ b ∈ fp, FpOk (X.blk sB HB scope env2 fp) [] H' b := by
    intro σ' H' s' I' nn b hb
    exact ⟨nn b hb, (I'.ok.exf b hb).1, I'.ok.exfs b hb, .inl hb, fun x c e => (I'.ok.exf b hb).2 x c e, fun p hp => absurd (show p ∈ ([] : List (Addr × Obj)) ++ [] from hp) (by simp)⟩
  have loop : codeAny (model X.prog X.w) X.A (.compLoop (.DictComp kx vx [⟨tg, iter, ifs, 0⟩] scope pos) 0 (.ref it) (.ref D) env2) RR sC := by
    refine compLoop_anyD (fun n s' => ∃ i H', Inv (X.blk sB HB scope env2 fp) [] (wipe σ (own.map (·.2))) H' s' ∧ tn i s'.heap ∧ (∀ b ∈ fp, H' b = none) ∧ W i n H') ?_ m0 ⟨0, HB, IC, stC, noneB, w0⟩
    rintro n sD ⟨i, HD, ID, stD, nnD, wD⟩
    rcases turn i n HD wD with ⟨stop, qq⟩ | ⟨go, Nx, hNx, step⟩
    · refine thnF (TR.done (X.blk sB HB scope env2 fp) rfl rfl rfl hc i [] sD _ HD (fun _ _ => False) ID (still ID nnD) stD stop) fun r sE z => ?_
      obtain ⟨rfl, IE⟩ := z
      have IX : Inv X pins σ HD sE := IB.call' (ch := fp) IE.os IE.base IE.hok IE.bare fun b hb => ⟨(fpB b hb).1.2.2.2.1, (fpB b hb).1.2.1, (fpB b hb).1.2.2.2.2.1, (fpB b hb).1.2.2.2.2.2⟩
      obtain ⟨m, hn, _⟩ := IE.loc
      have nC : HD env2.locals = none := IE.free
      have hn : sE.heap.Ns env2.locals m := hn
      rw [locE] at nC hn
      rw [← eR]
      refine ⟨m, hn, fun h'' sb => ?_⟩
      obtain ⟨f0, f1, f2, f3, f4, f5⟩ := IB.fpOk (Nat.le_refl _) nC
      exact ⟨.ref D, HD, IX.turned (t' := sE.toks) (fun b o hb e => (sb.2 b hb).trans e) f0 f1 f3 f4 f5, rfl, qq⟩
    · refine thnF (TR.item (X.blk sB HB scope env2 fp) rfl rfl rfl hc i [] sD _ HD (fun _ _ => False) ID (still ID nnD) stD go) fun r sE z => ?_
      obtain ⟨u, rfl, hE⟩ := z
      refine thnF hE fun _ sF z => ?_
      obtain ⟨x, HF, IF, rF, yF, stF, nnF⟩ := z
      refine thnF (rg.run _ sF _ HF x u _ (IF.pinned (still IF nnF) (TR.obj _ _ stF)) rF (step x HF yF)) fun _ sG z => ?_
      obtain ⟨σG, HG, IG, wG, qG⟩ := z
      refine thnF (rt.run _ sG σG HG _ IG qG) fun b sK z => ?_
      obtain ⟨HK, IK, qK⟩ := z
      have fin : ∀ {s' : Shared} {H' : Hp}, Inv (X.blk sB HB scope env2 fp) ([] ++ pinsAt fp sF.heap) σG H' s' → Nx H' → ∃ m, m < n ∧ ∃ i H', Inv (X.blk sB HB scope env2 fp) [] (wipe σ (own.map (·.2))) H' s' ∧ tn i s'.heap ∧ (∀ b ∈ fp, H' b = none) ∧ W i m H' := by
        intro s' H' I' nx
        obtain ⟨m', hm, w'⟩ := hNx H' nx
        have pin' : ∀ b ∈ fp, ∀ o, sF.heap.get? b = some o → s'.heap.get? b = some o ∧ H' b = none := by
          intro b hb o e
          obtain ⟨z1, z2, _⟩ := I'.pin (b, o) (List.mem_append_right _ (List.mem_append_right _ (mem_pinsAt hb e)))
          exact ⟨z1, z2⟩
        have len : (wipe σ (own.map (·.2))).length = σG.length := by
          rw [← wG, wipe_length]
        refine ⟨m', hm, i + 1, H', (I'.unpinned (pins := [])).weak len (fun j v e => ?_), TR.keep _ _ _ stF fun b hb o e => (pin' b hb o e).1, fun b hb => ?_, w'⟩
        · rw [← wG] at e
          exact (wipe_some e).1
        · obtain ⟨o, e, _⟩ := TR.obj _ _ stF b hb
          exact (pin' b hb o e).2
      cases b with
      | false =>
        simp only [Bool.false_eq_true, if_false] at qK ⊢
        exact fin IK qK
      | true =>
        simp only [if_true] at qK ⊢
        refine thnF (rk.run _ sK σG HK _ IK qK) fun z sL y => ?_
        obtain ⟨yk, HL, IL, rL, qL⟩ := y
        refine thnF (rv.run _ sL σG HL _ IL qL) fun z2 sM y => ?_
        obtain ⟨yv, HM, IM, rM, H6, put, nx⟩ := y
        exact put_comp (X := X.blk sB HB scope env2 fp) hu IM put rL rM fun s' I' => fin I' nx
  exact codeAny_compStart_dict loop (TR.self X.A 0 _ _ _ stC loop)
/-- a walk of known length under such a comprehension -/
theorem dcT_it {J : It} {n : Nat} {Pre : Hp → Prop} {Y : Nat → Hp → V → Hp → Prop} (w : Walk J n Pre Y) {σ : St} {vs : List Nat} {H1 : Hp} {D : Addr} {Qd : Hp → Prop} (Pv : Nat → Hp → Prop) (h0 : Pv 0 (upd H1 D (.dT []))) (hl : ∀ i H, i ≤ n → Pv i H → Pre H)
    (st : ∀ i x H H', i < n → Pv i H → Y i H x H' → g x (wipe σ vs) H' fun σ2 H2 => wipe σ2 vs = wipe σ vs ∧ tt σ2 H2 fun b H3 => if b = true then tk σ2 H3 fun y H4 => tv σ2 H4 fun z H5 => ∃ H6, DPut H5 D y z H6 ∧ Pv (i + 1) H6 else Pv (i + 1) H3)
    (hd : ∀ H, Pv n H → Qd H) : ∃ W : Nat → Nat → Hp → Prop, (∃ m, W 0 m (upd H1 D (.dT []))) ∧ ∀ i m H, W i m H →
      (J.stop i H ∧ Qd H) ∨ (J.go i H ∧ ∃ Nx : Hp → Prop, (∀ H', Nx H' → ∃ m', m' < m ∧ W (i + 1) m' H') ∧ ∀ x H', J.yld i H x H' → g x (wipe σ vs) H' fun σ2 H2 => wipe σ2 vs = wipe σ vs ∧ tt σ2 H2 fun b H3 =>
        if b = true then tk σ2 H3 fun y H4 => tv σ2 H4 fun z H5 => ∃ H6, DPut H5 D y z H6 ∧ Nx H6 else Nx H3) := by
  refine ⟨fun i m H => m = n - i ∧ i ≤ n ∧ Pv i H, ⟨n, (Nat.sub_zero n).symm, Nat.zero_le n, h0⟩, ?_⟩
  rintro i m H ⟨rfl, le, p⟩
  have pre := hl i H le p
  rcases Nat.lt_or_ge i n with lt | ge
  · exact .inr ⟨w.goes i H lt pre, Pv (i + 1), fun H' p' => ⟨n - (i + 1), by omega, rfl, lt, p'⟩, fun x H' y => st i x H H' lt p (w.yields i H x H' lt pre y)⟩
  · obtain rfl : i = n := Nat.le_antisymm le ge
    exact .inl ⟨w.stops H pre, hd H p⟩
end
end L2
set_option Elab.async false
set_option linter.all false
set_option maxRecDepth 100000
set_option maxHeartbeats 3200000
namespace TxS
open PySem PySem.Spec PyProof.Rows L2
/-! ### sets of texts: set(list of texts), sorted(set) -/
def txOf (e : Int × Value) : Str := match e.2 with | .str z _ => z | _ => Str.empty
def TxE (P : Program) (w : World) (e : Int × Value) : Prop := ∃ z tk, e.2 = Value.str z tk ∧ e.1 = (PySem.strKind P w).hash z
/-- the set at a holds just the texts of L -/
def TxR (P : Program) (w : World) (h : Heap) (a : Addr) (L : List Str) : Prop :=
  ∃ o es ep t, h.get? a = some o ∧ o.ExactSet ∧ o.data = .set es ep t ∧ (∀ e ∈ es.toList, TxE P w e) ∧ (es.toList.map txOf).Nodup ∧ (∀ z, z ∈ es.toList.map txOf ↔ z ∈ L) ∧ es.size ≤ L.length ∧ t.fits es.size = true ∧ Ris t.place.toList ∧ (w.params.followText "set-order" = true ∨ t.led = true)
section
variable {P : Program} {w : World} {h h' : Heap} {a : Addr} {L : List Str}
theorem TxR.at (R : TxR P w h a L) (k : ∀ o, h.get? a = some o → h'.get? a = some o) : TxR P w h' a L := by
  obtain ⟨o, es, ep, t, e, r⟩ := R
  exact ⟨o, es, ep, t, k o e, r⟩
theorem tx_elems {l : List (Int × Value)} (g : ∀ e ∈ l, TxE P w e) : ElemsOf (PySem.strKind P w) l := fun e he => by
  obtain ⟨z, tk, h1, h2⟩ := g e he
  rw [h1]
  exact ⟨⟨z, strKind_is _ _ _ _, h2⟩, rfl⟩
theorem tx_is {e : Int × Value} (g : TxE P w e) (z : Str) : (PySem.strKind P w).is z e.2 = true ↔ txOf e = z := by
  obtain ⟨y, tk, h1, _⟩ := g
  unfold txOf
  rw [h1]
  constructor
  · intro q
    obtain ⟨t, e⟩ := Value.isStrOf_shape (show Value.isStrOf z (.str y tk) = true from q)
    cases e
    rfl
  · rintro rfl
    exact strKind_is _ _ _ _
theorem tx_mem {l : List (Int × Value)} (g : ∀ e ∈ l, TxE P w e) (z : Str) : z ∈ l.map txOf ↔ ∃ e ∈ l, (PySem.strKind P w).is z e.2 = true := by
  rw [List.mem_map]
  constructor
  · rintro ⟨e, he, q⟩
    exact ⟨e, he, (tx_is (g e he) z).mpr q⟩
  · rintro ⟨e, he, q⟩
    exact ⟨e, he, (tx_is (g e he) z).mp q⟩
end
section
variable {P : Program} {w : World} {A : Around} {E : Value → Shared → Prop} {s : Shared} {a : Addr} {L : List Str}
theorem tail_tx {g : Bool → Sem Unit} (hg : ∀ (b : Bool) (s₁ : Shared) (Q' : Unit → Shared → Prop), Q' () s₁ → wpAny (model P w) A (g b) Q' E s₁) {o : Obj} {es : Array (Int × Value)} {ep : Nat} {t : SetTable} (ho : s.heap.get? a = some o) (hex : o.ExactSet) (hd : o.data = .set es ep t)
    {es1 : Array (Int × Value)} {t2 : SetTable} (g1 : ∀ e ∈ es1.toList, TxE P w e) (nd1 : (es1.toList.map txOf).Nodup) (m1 : ∀ z, z ∈ es1.toList.map txOf ↔ z ∈ L) (z1 : es1.size ≤ L.length) (hL : L.length < scanBound) (f2 : t2.fits es1.size = true) (r2 : Ris t2.place.toList)
    (l2 : w.params.followText "set-order" = true ∨ t2.led = true) {wasDummy : Bool} {R : Option Bool → Shared → Prop} (hR : ∀ h', Heap.SameBut a s.heap h' → TxR P w h' a L → R (some true) { s with heap := h' }) :
    wpAny (model P w) A (do
        storeSet a es1 t2
        if (!wasDummy && t2.tooFull) = true then do
            g (relayAll t2 es1 (SetTable.grown es1.size)).2.2
            storeSet a (relayAll t2 es1 (SetTable.grown es1.size)).1 (relayAll t2 es1 (SetTable.grown es1.size)).2.1
            pure (some true)
          else pure (some true)) R E s := by
  have b1 : es1.size < scanBound := Nat.lt_of_le_of_lt z1 hL
  refine wpAny_bind (wpAny_storeSet_of ho hd ?_ (fits_of_scanBound b1))
  have at1 := store_at (es' := es1) (t' := t2) ho hd
  have sb := Heap.SameBut.update s.heap a (Obj.putSet es1 t2)
  split
  · have pm := relayAll_perm t2 es1 (SetTable.grown es1.size)
    have f3 := relayAll_fits t2 es1 (SetTable.grown es1.size)
    have r3 := relayAll_ris t2 es1 (SetTable.grown es1.size)
    have l3 := relayAll_led t2 es1 (SetTable.grown es1.size)
    generalize relayAll t2 es1 (SetTable.grown es1.size) = Z at pm f3 r3 l3 ⊢
    obtain ⟨es2, t3, gave⟩ := Z
    dsimp only at pm f3 r3 l3 ⊢
    have sz : es2.size = es1.size := by
      rw [← Array.length_toList, pm.length_eq, Array.length_toList]
    refine wpAny_bind (hg _ _ _ (wpAny_bind (wpAny_storeSet_of at1 rfl (wpAny_pure (hR _ (sb.trans (Heap.SameBut.update _ a _)) ?_)) (fits_of_scanBound (by rw [sz]; exact b1)))))
    refine ⟨_, es2, _, t3, store_at (es' := es2) (t' := t3) at1 rfl, hex, rfl, fun e he => g1 e (pm.mem_iff.mp he), (pm.map txOf).nodup_iff.mpr nd1, fun z => (pm.map txOf).mem_iff.trans (m1 z), by rw [sz]; exact z1, f3, r3, l2.imp id fun z => ?_⟩
    rw [l3]
    exact z
  · exact wpAny_pure (hR _ sb ⟨_, es1, _, t2, at1, hex, rfl, g1, nd1, m1, z1, f2, r2, l2⟩)
theorem add_tx {z : Str} {tk : Tok} {Q : Bool → Shared → Prop} (R : TxR P w s.heap a L) (room : L.length + 1 < scanBound) (hQ : ∀ b h', Heap.SameBut a s.heap h' → TxR P w h' a (L ++ [z]) → Q b { s with heap := h' }) :
    wpAny (model P w) A (setAddHashed a (.str z tk) ((PySem.strKind P w).hash z)) Q E s := by
  obtain ⟨o, es, ep, t, ho, hex, hd, g, nd, mm, hz, hf, hr, hl⟩ := R
  have sc : (Value.str z tk).scannable = true := rfl
  have el : ElemsOf (PySem.strKind P w) es.toList := tx_elems g
  have few : es.size < scanBound := by omega
  unfold setAddHashed setAddHashedIn
  refine wpAny_holding (wpAny_bind (wpAny_setState_of ho hd hf ?_))
  dsimp only
  rw [byScan_of sc few el]
  simp only [↓reduceIte]
  unfold setAddByScan
  refine wpAny_bind (wpAny_bind (wpAny_rule (wpAny_bind (wpAny_setScan_of (strKind_is P w z tk) ho hd hf el ?_))))
  cases hfi : List.findIdx? (fun e => (PySem.strKind P w).is z e.2) es.toList with
  | some j =>
    obtain ⟨hj, pj, _⟩ := List.findIdx?_eq_some_iff_getElem.mp hfi
    have inL : z ∈ L := (mm z).mp ((tx_mem g z).mpr ⟨es.toList[j], List.getElem_mem hj, pj⟩)
    refine wpAny_pure (wpAny_pure (hQ _ s.heap (Heap.SameBut.refl a s.heap) ⟨o, es, ep, t, ho, hex, hd, g, nd, fun y => ?_, by rw [List.length_append]; omega, hf, hr, hl⟩))
    rw [mm y, List.mem_append, List.mem_singleton]
    exact ⟨.inl, fun q => q.elim id fun e => e ▸ inL⟩
  | none =>
    have out : z ∉ es.toList.map txOf := fun q => by
      obtain ⟨e, he, c⟩ := (tx_mem g z).mp q
      rw [List.findIdx?_eq_none_iff.mp hfi e he] at c
      cases c
    have hgw : ∀ (b : Bool) {s₁ : Shared} {Q' : Unit → Shared → Prop}, Q' () s₁ → wpAny (model P w) A (match b with | true => rule "set.scan.the-table-gave-way" | false => pure ()) Q' E s₁ := fun b s₁ Q' q => by
      cases b
      · exact wpAny_pure q
      · exact wpAny_rule q
    have pm := layNew_perm t es ((PySem.strKind P w).hash z) (.str z tk)
    have f1 := layNew_fits t es ((PySem.strKind P w).hash z) (.str z tk)
    have r1 := layNew_ris t es ((PySem.strKind P w).hash z) (.str z tk) hr
    have l1 := layNew_led t es ((PySem.strKind P w).hash z) (.str z tk)
    dsimp only
    generalize layNew t es ((PySem.strKind P w).hash z) (.str z tk) = Z at pm f1 r1 l1 ⊢
    obtain ⟨es1, t1, wasDummy, gave⟩ := Z
    dsimp only at pm f1 r1 l1 ⊢
    rw [Array.toList_push] at pm
    have pc : es1.toList.Perm (((PySem.strKind P w).hash z, Value.str z tk) :: es.toList) := pm.trans (List.perm_append_singleton _ _)
    have pk : (es1.toList.map txOf).Perm (z :: es.toList.map txOf) := pc.map txOf
    have g1 : ∀ e ∈ es1.toList, TxE P w e := fun e he => by
      rcases List.mem_cons.mp (pc.mem_iff.mp he) with q | q
      · rw [q]
        exact ⟨z, tk, rfl, rfl⟩
      · exact g e q
    have nd1 : (es1.toList.map txOf).Nodup := pk.nodup_iff.mpr (List.nodup_cons.mpr ⟨out, nd⟩)
    have m1 : ∀ y, y ∈ es1.toList.map txOf ↔ y ∈ L ++ [z] := fun y => by
      rw [pk.mem_iff, List.mem_cons, List.mem_append, List.mem_singleton, mm y]
      exact Or.comm
    have sz : es1.size = es.size + 1 := by
      rw [← Array.length_toList, pc.length_eq, List.length_cons, Array.length_toList]
    have z1 : es1.size ≤ (L ++ [z]).length := by
      rw [List.length_append, sz]
      exact Nat.succ_le_succ hz
    have lL : (L ++ [z]).length < scanBound := by
      rw [List.length_append]
      exact room
    have led1 : w.params.followText "set-order" = true ∨ t1.led = true := hl.imp id fun q => by
      rw [l1]
      exact q
    have gw2 : ∀ (b : Bool) (s₁ : Shared) (Q' : Unit → Shared → Prop), Q' () s₁ → wpAny (model P w) A (match b with | true => rule "set.scan.the-table-gave-way" | false => pure ()) Q' E s₁ := fun b s₁ Q' q => hgw b q
    refine wpAny_bind (hgw _ ?_)
    split
    · refine wpAny_bind ?_
      rw [hashByValue_scannable 8 sc]
      refine wpAny_pure ?_
      refine tail_tx gw2 ho hex hd g1 nd1 m1 z1 lL ?_ ?_ ?_ ?_
      · first | (split <;> first | exact f1 | exact SetTable.fits_plain_off f1) | exact f1
      · first | (split <;> exact r1) | exact r1
      · first | (split <;> exact led1) | exact led1
      · intro h' sb r
        dsimp only
        exact wpAny_pure (hQ _ h' sb r)
    · refine wpAny_bind (wpAny_pure ?_)
      simp only [↓reduceIte]
      refine tail_tx gw2 ho hex hd g1 nd1 m1 z1 lL f1 r1 led1 ?_
      intro h' sb r
      dsimp only
      exact wpAny_pure (hQ _ h' sb r)
end
end TxS
set_option Elab.async false
set_option linter.all false
set_option maxRecDepth 100000
set_option maxHeartbeats 3200000
namespace TxS
open PySem PySem.Spec PyProof.Rows L2
section
variable {P : Program} {w : World} {A : Around} {R : Result → Shared → Prop} {I : Addr} {fp wr : List Addr} {G : Array GenState → Array GenState → Prop} {n : Nat} {Pv : Nat → Value → Prop} {St : Nat → Shared → Prop}
/-- set.update's loop over texts -/
theorem loop_tx (W : WalksS P w A.in1 I fp wr G n Pv St) (S : Addr) (out : S ∉ fp) (xs : List Str) (hn : n = xs.length) (few : xs.length < 64) (val : ∀ i v, Pv i v → ∃ z t, xs[i]? = some z ∧ v = Value.str z t) :
    ∀ (k i : Nat) (s : Shared), n - i = k → i ≤ n → St i s → TxR P w s.heap S (xs.take i) → (∀ s', Moved (S :: wr) G s s' → TxR P w s'.heap S xs → R (.ok (.ret .none)) s') →
      codeAny (model P w) A (.builtin "set.update.loop" ⟨[.ref S, .ref I], []⟩) R s := by
  have out2 : S ∉ wr := fun q => out (W.sub _ q)
  have sub : ∀ b ∈ wr, b ∈ S :: wr := fun b hb => List.mem_cons_of_mem _ hb
  intro k
  induction k with
  | zero =>
    intro i s hk hi st hS hR
    obtain rfl : i = n := by omega
    apply codeAny_builtin F.entry_set_update_loop
    rw [Around.under_plainId F.plain_set_update_loop _]
    show wpAny _ A.in1 (pyNext (.ref I) >>= _) _ _ s
    apply wpAny_bind
    refine W.done s _ _ st fun s' mv => ?_
    show wpAny _ A.in1 (ret Value.none) _ _ s'
    refine wpAny_pure (hR s' (mv.mono sub) ?_)
    rw [hn, List.take_length] at hS
    exact hS.at fun o e => mv.heap S o out2 e
  | succ k ih =>
    intro i s hk hi st hS hR
    have lt : i < n := by omega
    apply codeAny_builtin F.entry_set_update_loop
    rw [Around.under_plainId F.plain_set_update_loop _]
    show wpAny _ A.in1 (pyNext (.ref I) >>= _) _ _ s
    apply wpAny_bind
    refine W.item i s _ _ lt st fun v s' hP st' mv => ?_
    obtain ⟨z, t, hz, rfl⟩ := val i v hP
    have hS' : TxR P w s'.heap S (xs.take i) := hS.at fun o e => mv.heap S o out2 e
    show wpAny _ A.in1 (holding [Value.str z t] (setAdd S (.str z t)) >>= _) _ _ s'
    refine wpAny_bind (wpAny_holding ?_)
    unfold setAdd
    refine wpAny_holding (wpAny_bind ((PySem.strKind P w).pyHash (k := z) (strKind_is _ _ _ _) ?_))
    refine add_tx (s := { s' with toks := s'.toks + 1 }) hS' (by rw [List.length_take]; unfold scanBound; omega) fun b h' sb hS2 => ?_
    have e : xs.take i ++ [z] = xs.take (i + 1) := by
      rw [List.take_succ, hz]
      rfl
    rw [e] at hS2
    refine wpAny_pure ⟨plainId_quiet F.plain_set_update_loop _, ih (i + 1) _ (by omega) lt (W.frame _ s' _ _ st' (Nat.le_succ _) fun b hb o e => ?_) hS2 fun s'' mv2 hS3 => ?_⟩
    · rw [sb.2 b fun q : b = S => out (by rw [← q]; exact hb)]
      exact e
    · refine hR s'' (Moved.trans W.gtrans ((mv.mono sub).then_heap (Nat.le_succ _) fun b o hb e => ?_) mv2) hS3
      rw [sb.2 b fun q : b = S => hb (by rw [q]; exact List.mem_cons_self)]
      exact e
end
def obj0 (w : World) : Obj := { cls := .type "set", dict := none, data := .set #[] 0 (.fresh 0 0 (!w.params.followText "set-order")) }
theorem fresh_tx {P : Program} {w : World} {h : Heap} {a : Addr} (ho : h.get? a = some (obj0 w)) : TxR P w h a [] := by
  refine ⟨_, #[], 0, _, ho, ⟨rfl, rfl, rfl⟩, rfl, fun e he => ?_, List.nodup_nil, fun z => Iff.rfl, Nat.le_refl _, rfl, List.Pairwise.nil, ?_⟩
  · cases he
  · show _ ∨ (!w.params.followText "set-order") = true
    cases w.params.followText "set-order"
    · exact .inr rfl
    · exact .inl rfl
section
variable {P : Program} {w : World} {A : Around} {E : Value → Shared → Prop} {s : Shared}
/-- set(xs), xs a list of texts -/
theorem call_set_tx {l : Addr} {items : Array Value} {xs : List Str} {Q : Value → Shared → Prop} (hh : A.handled = none) (hl : s.heap.IsList l items) (hi : StrsAre items.toList xs) (few : xs.length < 64)
    (h : ∀ (h' : Heap) (tk : Nat), TxR P w h' s.heap.objs.size xs → (∀ b o, s.heap.get? b = some o → h'.get? b = some o) → Q (.ref s.heap.objs.size) { s with heap := h', toks := tk }) :
    wpAny (model P w) A (call (.type "set") [.ref l]) Q E s := by
  obtain ⟨c, tl, hmro⟩ := F.called_set.mro
  have a1 := F.called_set.made
  have a2 := F.called_set.sub
  apply wpAny_call
  apply codeAny_of_tree
  show wpAny _ _ (callAny (.type "set") _) _ _ _
  refine wpAny_pure ⟨Code.quiet_builtin _ (by decide +kernel), codeAny_builtin F.entry_type_call ?_⟩
  rw [Around.under_plain (weight_type_call_type "set" [.ref l] []) rfl]
  have a3 := F.called_set.notType
  have a4 := F.called_set.canCreate
  have a5 := F.typeCall_set_1 (.ref l)
  repeat (any_goals (first | assumption | wp_step))
  refine codeAny_mono (code_set_led1 (.ref l) (E := E) (Q₁ := fun obj s₁ => obj = .ref s.heap.objs.size ∧ s₁ = { s with heap := s.heap.push (obj0 w) }) ⟨rfl, rfl⟩) fun r s₁ hr => ?_
  match r, hr with
  | .error e, hr => exact hr
  | .ok .next, hr => exact hr.elim
  | .ok .brk, hr => exact hr.elim
  | .ok .cont, hr => exact hr.elim
  | .ok (.ret obj), hr =>
    obtain ⟨rfl, rfl⟩ := hr
    have at0 : (s.heap.push (obj0 w)).get? s.heap.objs.size = some (obj0 w) := Heap.get?_push_size _ rfl
    have ty0 : Shared.TypeIs { s with heap := s.heap.push (obj0 w) } (.ref s.heap.objs.size) "set" := ⟨_, at0, rfl⟩
    have a6 := F.called_set.init.lookup
    have a7 := F.called_set.init.bind (.ref s.heap.objs.size)
    repeat (any_goals (first | assumption | wp_step))
    refine codeAny_mono (codeAny_call_builtin (R := wants (fun r s₂ => r = .none ∧ ∃ h' tk, s₂ = { s with heap := h', toks := tk } ∧ TxR P w h' s.heap.objs.size xs ∧ (∀ b o, s.heap.get? b = some o → h'.get? b = some o)) E)
      F.called_set.init.plain F.entry_set_init (check_set_init_1 ty0 ?_)) fun r₂ s₂ hr₂ => ?_
    · obtain ⟨ol, hol, hcl, nl, hdl⟩ := hl
      obtain ⟨ocls, odict, odata, oslots⟩ := ol
      simp only at hcl hdl
      subst hcl hdl
      have at1 : (s.heap.push (obj0 w)).get? l = some { cls := .type "list", dict := odict, data := .seq items nl, slots := oslots } := Heap.get?_push_of_some _ hol
      have b1 := F.sub_list_set
      have b2 := F.sub_list_frozenset
      have b3 : (Value.type "list" == Value.type "dict") = false := by decide
      have isl : (s.heap.push (obj0 w)).IsList l items := ⟨_, at1, rfl, nl, rfl⟩
      unfold Builtin.«set.__init__» noKeywords Builtin.Frozenset.updateFrom
      generalize ePI : pyIter = PI
      wp_walk
      subst ePI
      refine wpAny_pyIter_list isl (wpAny_bind (wpAny_runValue ?_))
      have l_lt : l < s.heap.objs.size := Heap.lt_size hol
      have hh3 : A.in1.in1.in1.handled = none := by simp [hh]
      have neI : l ≠ (s.heap.push (obj0 w)).objs.size := by
        rw [Heap.size_push]
        exact Nat.ne_of_lt (Nat.lt_succ_of_lt l_lt)
      have nin : s.heap.objs.size ∉ [(s.heap.push (obj0 w)).objs.size, l] := by
        rw [Heap.size_push]
        intro q
        rcases List.mem_cons.mp q with q | q
        · exact absurd q (Nat.ne_of_lt (Nat.lt_succ_self _))
        · exact absurd (List.mem_singleton.mp q) (Nat.ne_of_gt l_lt)
      have sz : items.size = xs.length := by
        rw [← StrsAre.len_eq hi, Array.length_toList]
      have val : ∀ (i : Nat) (v : Value), items[i]? = some v → ∃ z t, xs[i]? = some z ∧ v = Value.str z t := fun i v hv => by
        obtain ⟨t, e⟩ := SS.strs_at hi i v (by rw [Array.getElem?_toList]; exact hv)
        have lt : i < xs.length := by
          rw [← sz]
          exact (Array.getElem?_eq_some_iff.mp hv).1
        refine ⟨xs[i], t, List.getElem?_eq_getElem lt, ?_⟩
        rw [e, List.getD_eq_getElem?_getD, List.getElem?_eq_getElem lt]
        rfl
      refine loop_tx ((Walks.list hh3 _ l neI items).toS) s.heap.objs.size nin xs sz few val (items.size - 0) 0 _ (by omega) (Nat.zero_le _) ⟨⟨_, Heap.get?_push_size _ rfl, rfl, rfl⟩, (isl.push _)⟩ (fresh_tx (Heap.get?_push_of_some _ at0)) ?_
      intro s' mv hS'
      obtain ⟨h', g', d', tk', os'⟩ := s'
      obtain rfl : g' = s.gens := mv.gens
      obtain rfl : d' = s.drawn := mv.drawn
      obtain rfl : os' = s.os := mv.os
      show wpAny _ _ _ _ _ _
      refine wpAny_pure ?_
      show wpAny _ _ (ret Value.none) _ _ _
      refine wpAny_pure ⟨rfl, h', tk', rfl, hS', fun b o e => ?_⟩
      have b_lt := Heap.lt_size e
      refine mv.heap b o (fun q => ?_) (Heap.get?_push_of_some _ (Heap.get?_push_of_some _ e))
      rcases List.mem_cons.mp q with q | q
      · exact absurd q (Nat.ne_of_lt b_lt)
      · have q' := List.mem_singleton.mp q
        rw [Heap.size_push] at q'
        exact absurd q' (Nat.ne_of_lt (Nat.lt_succ_of_lt b_lt))
    · match r₂, hr₂ with
      | .error e, hr₂ => exact hr₂
      | .ok .next, hr₂ => exact hr₂.elim
      | .ok .brk, hr₂ => exact hr₂.elim
      | .ok .cont, hr₂ => exact hr₂.elim
      | .ok (.ret r), hr₂ =>
        obtain ⟨rfl, h', tk, rfl, hS', hk'⟩ := hr₂
        repeat (any_goals (first | assumption | wp_step))
        exact h _ _ hS' hk'
end
end TxS
set_option Elab.async false
set_option linter.all false
set_option maxRecDepth 100000
set_option maxHeartbeats 3200000
namespace L2
open PySem PySem.Spec PyProof.Rows
open TxS
/-- the set of the texts of L at a -/
def TxO (P : Program) (w : World) (a : Addr) (L : List Str) : HO := .ext fun h => TxR P w h a L
section
variable {X : Cx}
theorem txO_ok {P : Program} {w : World} {H : Hp} {h : Heap} {a : Addr} {L : List Str} (R : TxR P w h a L) : ObjOk P w H h a (TxO P w a L) := by
  have ⟨o, _, _, _, ho, _⟩ := R
  exact ⟨R, ⟨o, ho⟩, fun h1 h2 p k => TxR.at p k⟩
theorem strsV : ∀ {ys : List Str} {us : List Value}, Vals (ys.map V.str) us → StrsAre us ys
  | [], _, .nil => .nil
  | y :: ys, _, .cons r t => by
    obtain ⟨k, rfl⟩ := r
    exact .cons y k (strsV t)
/-- set(xs), xs a list of texts -/
def rSetTx (X : Cx) : List V → Hp → VK → Prop := fun xs H Q => ∃ (a : Addr) (ys : List Str), xs = [.ref a] ∧ SqL X.K H a (ys.map V.str) ∧ ys.length < 64 ∧ ∀ p, H p = none → Q (.ref p) (upd H p (TxO X.prog X.w p ys))
theorem cr_setTx (hc : X.calm = true) : CallR X (.type "set") (rSetTx X) := by
  intro pins s σ H xs us Q I r h
  obtain ⟨a, ys, rfl, hs, few, q⟩ := h
  cases r with
  | cons rx rr =>
    cases rr
    cases rx
    obtain ⟨its, rv, p, hz⟩ := I.list hs
    refine call_set_tx (I.ok.hd hc) p.isList (by simpa using strsV rv) few fun h' tk R kp => ?_
    exact ⟨.ref s.heap.objs.size, _, I.laid (t' := tk) kp (Nat.le_refl _) (txO_ok R), rfl, q _ (I.hok.fresh (Nat.le_refl _))⟩
/-- sorted(s), s such a set -/
def rSortTx (X : Cx) : List V → Hp → VK → Prop := fun xs H Q => ∃ (a : Addr) (L : List Str), xs = [.ref a] ∧ H a = some (TxO X.prog X.w a L) ∧ L.length < 64 ∧
  ∀ (ys : List Str) (p : Addr), ys.Nodup → (∀ z, z ∈ ys ↔ z ∈ L) → sortedS ys = true → H p = none → Q (.ref p) (upd H p (.lst (ys.map V.str)))
theorem cr_sortTx (hc : X.calm = true) : CallR X (.builtin "sorted") (rSortTx X) := by
  intro pins s σ H xs us Q I r h
  obtain ⟨a, L, rfl, ha, few, q⟩ := h
  cases r with
  | cons rx rr =>
    cases rr
    cases rx
    have R : TxR X.prog X.w s.heap a L := (I.hok a _ ha).1
    obtain ⟨o, es, ep, t, ho, hex, hd, g, nd, mm, hz, hf, hr, hl⟩ := R
    apply Calls.call_function_entry kind_sorted plain_sorted entry_sorted (args_sorted1 _)
    unfold Builtin.«sorted»
    refine wpAny_bind (m := checkCount "sorted" 1 1 _) (wpAny_pure (wpAny_bind ?_))
    refine collect_set (A := X.A.in1) (I.ok.hd hc) ⟨o, ho, hex.1, hd⟩ hf (by unfold scanBound; omega) hr hl fun s1 vs k1 lz g1 o1 pm => ?_
    have zs : ∃ zs : List Str, StrsAre vs zs ∧ zs.Perm (es.toList.map txOf) := by
      have key : ∀ l : List Value, (∀ v ∈ l, ∃ e ∈ es.toList, e.2 = v) → StrsAre l (l.map fun v => txOf (0, v)) := by
        intro l
        induction l with
        | nil => exact fun _ => .nil
        | cons v l ih =>
          intro hv
          obtain ⟨e, he, rfl⟩ := hv v List.mem_cons_self
          obtain ⟨z, tk, h1, _⟩ := g e he
          have t := ih fun u hu => hv u (List.mem_cons_of_mem _ hu)
          rw [List.map_cons]
          rw [h1]
          exact .cons z tk t
      refine ⟨vs.map fun v => txOf (0, v), key vs fun v hv => ?_, ?_⟩
      · obtain ⟨e, he, q⟩ := List.mem_map.mp (pm.mem_iff.mp hv)
        exact ⟨e, he, q⟩
      · have z := pm.map fun v => txOf (0, v)
        rw [List.map_map] at z
        exact z
    obtain ⟨zs, hS, pz⟩ := zs
    have lv : vs.length = zs.length := StrsAre.len_eq hS
    have lz64 : zs.length < 64 := by
      rw [pz.length_eq, List.length_map, Array.length_toList]
      omega
    obtain ⟨h', g', d', tk', os'⟩ := s1
    obtain rfl : g' = s.gens := g1
    obtain rfl : os' = s.os := o1
    refine wpAny_bind (wpAny_newList ?_ (by rw [lv, sizeLine_eq]; omega))
    have atL : (h'.push (seqObj "list" vs.toArray 0)).get? h'.objs.size = some (seqObj "list" vs.toArray 0) := Heap.get?_push_size _ rfl
    refine wpAny_bind (wpAny_holding (wpAny_call_entry slot_list_sort ⟨_, atL, rfl⟩ entry_list_sort (list_sort_treeK strKind_oneLt atL hS.keysOf (fun v₁ v₂ rest e => keyKind_strs (by rw [← e]; exact hS)) (by rw [lv]; exact lz64) fun st' hp hs => ⟨_, rfl, ?_⟩) (args_list_sort _)))
    obtain ⟨ys, y1, y2, y3⟩ := sorted_out_str hS hp hs
    obtain ⟨e', he'⟩ := sortedHeap_at (vs := vs) (out := (arrOf st').map (·.2)) atL
    have py := y2.trans pz
    have len : (ys.map V.str).length ≤ sizeLine := by
      rw [List.length_map, y2.length_eq, sizeLine_eq]
      omega
    have kp : ∀ b u, s.heap.get? b = some u → (sortedHeap (h'.push (seqObj "list" vs.toArray 0)) h'.objs.size vs ((arrOf st').map (·.2))).get? b = some u := fun b u e => by
      have k2 := k1 b u e
      have lt := Heap.lt_size k2
      rw [sortedHeap_old (Nat.ne_of_lt lt) (by rw [size_push']; exact Nat.lt_succ_of_lt lt)]
      exact Heap.get?_push_of_some _ k2
    have hn : H h'.objs.size = none := I.hok.fresh lz
    refine wpAny_pure ⟨_, rfl, .ref h'.objs.size, upd H h'.objs.size (.lst (ys.map V.str)), ?_, rfl, q ys _ (py.nodup_iff.mpr nd) (fun z => by rw [py.mem_iff]; exact mm z) y3 hn⟩
    have new : ObjOk X.prog X.w (upd H h'.objs.size (.lst (ys.map V.str))) (sortedHeap (h'.push (seqObj "list" vs.toArray 0)) h'.objs.size vs ((arrOf st').map (·.2))) h'.objs.size (.lst (ys.map V.str)) :=
      ⟨len, ((arrOf st').map (·.2)).toList, e', vals_of_strs y1, by rw [Array.toArray_toList]; exact he'⟩
    have J : Inv X pins σ (upd H h'.objs.size (.lst (ys.map V.str))) { s with heap := sortedHeap (h'.push (seqObj "list" vs.toArray 0)) h'.objs.size vs ((arrOf st').map (·.2)), gens := s.gens, drawn := d', toks := tk' } :=
      I.call (ch := []) (Un.laid kp lz hn) (I.hok.laid kp lz new) I.bare (fun _ z => nomatch z)
    exact J
end
/-! ### sorted(x), the items told by a relation of one's own -/
section
variable {X : Cx} {β : Type} {enc : β → PyData}
open PySem.W (EachIs dataLe AllAlike Sortable)
theorem each_R {R : V → β → Prop} : ∀ {vs : List V} {us : List Value} {bs : List β}, Vals vs us → Paired R vs bs → EachIs (fun u b => ∃ v, RelV v u ∧ R v b) us bs
  | _, _, _, .nil, .nil => .nil
  | _, _, _, .cons r rr, .cons d dd => .cons ⟨_, r, d⟩ (each_R rr dd)
theorem R_each {R : V → β → Prop} : ∀ {us : List Value} {bs : List β}, EachIs (fun u b => ∃ v, RelV v u ∧ R v b) us bs → ∃ vs, Vals vs us ∧ Paired R vs bs
  | _, _, .nil => ⟨[], .nil, .nil⟩
  | _, _, .cons ⟨v, r, d⟩ t => by
    obtain ⟨vs, h1, h2⟩ := R_each t
    exact ⟨v :: vs, .cons r h1, .cons d h2⟩
def rSortR (K : PySem.W.Frag) (enc : β → PyData) (R : Hp → V → β → Prop) : List V → Hp → VK → Prop := fun xs H Q => ∃ (a : Addr) (vs : List V) (bs : List β), xs = [.ref a] ∧ (SqL K H a vs ∨ SqT K H a vs) ∧ Paired (R H) vs bs ∧ (∀ v b, R H v b → Dp K H v (enc b)) ∧
  AllAlike (bs.map enc) ∧ Sortable (bs.map enc) ∧ (∀ b ∈ bs, (enc b).depth ≤ 50) ∧ ∀ (ys : List V) (p : Addr), H p = none → Paired (R H) ys (bs.mergeSort (dataLe false enc)) → Q (.ref p) (upd H p (.lst ys))
theorem cr_sortR {R : Hp → V → β → Prop} (hu : X.A.units + 64 < cLine) : CallR X (.builtin "sorted") (rSortR X.K enc R) := by
  intro pins s σ H xs us Q I r h
  obtain ⟨a, vs, bs, rfl, hs, hp, hR, hal, hk, hdp, q⟩ := h
  cases r with
  | cons rx rr =>
    cases rr
    cases rx
    obtain ⟨T, o, its, n, hT, ho, hc, hd, rv, hz⟩ : ∃ (T : String) (o : Obj) (its : List Value) (n : Nat), (T = "list" ∨ T = "tuple") ∧ s.heap.get? a = some o ∧ o.cls = .type T ∧ o.data = .seq its.toArray n ∧ Vals vs its ∧ vs.length ≤ sizeLine := by
      rcases hs with hs | hs
      · obtain ⟨its, rv, ⟨o, n, ho, hc, _, hd⟩, hz⟩ := I.list hs
        exact ⟨"list", o, its, n, .inl rfl, ho, hc, hd, rv, hz⟩
      · obtain ⟨its, rv, ⟨o, ho, hc, n, hd⟩, hz⟩ := I.tuple hs
        exact ⟨"tuple", o, its, n, .inr rfl, ho, hc, hd, rv, hz⟩
    have e := each_R rv hp
    have er : EachIs (fun v b => ∃ as, Reads s.heap v (enc b) as) its bs := e.mono fun u b ⟨v, rv, d⟩ => Dp.reads I _ _ _ (hR v b d) rv
    have le : bs.length ≤ sizeLine := by
      rw [← e.length, ← rv.length]
      exact hz
    refine PySem.SoX.sorted_seq hT ho hc hd e er hal hk le (fun b hb => ?_) fun h' d out kp nd hn hlen eo => ?_
    · have := hdp b hb
      omega
    · obtain ⟨ys, ry, py⟩ := R_each eo
      obtain ⟨k, hn⟩ := hn
      have nH := I.hok.none_at nd
      have lz : ys.length ≤ sizeLine := by
        rw [ry.length, hlen]
        exact le
      exact ⟨.ref d, _, I.laidN (h' := h') (o := .lst ys) (t' := s.toks) kp nd nH ⟨lz, out, k, ry, hn⟩, rfl, q ys d nH py⟩
end
end L2
set_option Elab.async false
set_option linter.all false
set_option maxRecDepth 100000
set_option maxHeartbeats 2000000
namespace PySem
namespace XS
open PySem.W PySem.Calls PyProof.Rows PySem.HandSPX
/-! ### the text of an __init__ that says super().__init__(f); self.f = f -/
def iA (f : Str) (p1 p2 : Pos) : Arguments :=
  { posonlyargs := [], args := [⟨"self", none, p1⟩, ⟨f, none, p2⟩], vararg := none, kwonlyargs := [], kw_defaults := [], kwarg := none, defaults := [] }
def iB (f : Str) (q1 q2 q3 q4 q5 q6 q7 q8 q9 q10 : Pos) : List Stmt :=
  [.Expr (.Call (.Attribute (.Call (.Name "super" q1) [] [] q2) "__init__" q3) [.Name f q4] [] q5) q6,
   .Assign [.Attribute (.Name "self" q7) f q8] (.Name f q9) q10]
def iS (f : Str) : Scope :=
  { kind := .function, names := [("self", .local), (f, .local), ("__class__", .free), ("super", .globalImplicit)], isGenerator := false, isCoroutine := false, more := [] }
/-- a store of the first field of an exception, of any base -/
theorem osa_first {prog : Program} {w : World} {A : Around} {R : Result → Shared → Prop} {hp : Heap} {g : Array GenState} {d : Drawn} {t : Nat} {os : OsState} {B : String} {bmB : List Value}
    {K : W.Frag} {name : Str} {tk : Tok} {v : Value} {x C : Addr} {fv : Array Value} {cd : ClassData} (SF : StoreFacts B bmB "object.__setattr__" "object")
    (X : K.In hp) (hx : hp.get? x = some { cls := .ref C, data := .fields fv }) (hcd : W.clsIn K C = some cd) (hm : excOver K C bmB = true) (hh : cd.hasDict = true) (ha : W.findIn K (.ref C) name = some none)
    (hq : ∀ h' tk' dx, (∀ b o, b ≠ x → hp.get? b = some o → h'.get? b = some o) → hp.objs.size ≤ dx → dx ≠ x → h'.get? x = some { cls := .ref C, dict := some dx, data := .fields fv } →
      h'.Ns1 dx (fun y => if y = name then some v else none) → R (.ok (.ret .none)) ⟨h', g, d, tk', os⟩) :
    codeAny (model prog w) A (.call (.builtin "object.__setattr__") ⟨[.ref x, .str name tk, v], []⟩) R ⟨hp, g, d, t, os⟩ := by
  have J : W.InstAt hp x { cls := .ref C, data := .fields fv } C none := ⟨hx, rfl, rfl, trivial⟩
  have nx : x ≠ hp.objs.size := Nat.ne_of_lt (Heap.lt_size hx)
  have tkr : takerIn K C name = some none := by unfold takerIn; rw [ha]; rfl
  refine osa_openX SF X J hm tkr fun b => ?_
  show wpAny _ _ (Builtin.ObjectAttr.storeInOwnDict (.ref x) (.ref C) (.str name tk) name v b) _ _ _
  have lc : W.Looks (model prog w) hp (classData C) cd := W.looks_clsIn X hcd
  obtain ⟨a1, a2, a3, a4, a5, a6, a7, a8, a9, a10, a11⟩ := cd
  dsimp only at hh
  subst hh
  unfold Builtin.ObjectAttr.storeInOwnDict Builtin.ObjectAttr.ownDictForStores
  repeat (first | with_reducible refine store_in_new ?_ ?_ | with_reducible refine wpAny_loadPart_at hx ?_ | with_reducible refine lc.at ?_ | wp_step)
  · exact ⟨_, #[], _, (Heap.get?_update_ne _ _ _ _ nx.symm).trans (Heap.get?_push_at rfl rfl), rfl, fun e he => absurd he (by simp), fun _ => rfl⟩
  · intro h1 t1 n1 s1
    have e1 : (hp.push { cls := .type "dict", data := .dict #[] }).get? x = some { cls := .ref C, data := .fields fv } := Heap.get?_push_of_some _ hx
    refine hq h1 t1 hp.objs.size (fun b o hb ho => ?_) (Nat.le_refl _) nx.symm ?_ n1
    · have q1 := s1.2 b (Nat.ne_of_lt (Heap.lt_size ho))
      exact q1.trans ((Heap.get?_update_ne _ _ _ _ hb).trans (Heap.get?_push_of_some _ ho))
    · have q1 := s1.2 x nx
      exact q1.trans (Heap.get?_update_self _ e1 rfl)
end XS
end PySem
set_option Elab.async false
set_option linter.all false
set_option maxRecDepth 100000
set_option maxHeartbeats 2000000
namespace PySem
namespace XS
open PySem.W PySem.Calls PyProof.Rows PySem.HandSPX
/-- a method's call whose bracket opens on the row where the name ends -/
theorem mcall_eq {o : Expr} {name : Str} {apos pos : Pos} {args : List Expr} {env : Env} (hp : (apos.endLine == pos.line) = true)
    (hf : methodCallForm (args.length + 0) (backTo pos (starEach args env)) (backToKw pos (keywordEach [] env)) = true) :
    eval (.Call (.Attribute o name apos) args [] pos) env = (do
      let ov ← attributeBase o name env (eval o env)
      standAt apos.atName
      let (f, first) ← holding [ov] (getMethod ov name (do return (← importBound o env).getD true))
      callWith pos f first (backTo pos (starEach args env)) []) := by
  show (do
    let ov ← attributeBase o name env (eval o env)
    standAt apos.atName
    methodCall o name apos pos env ov (args.length + 0) (backTo pos (starEach args env)) (backToKw pos (keywordEach [] env))) = _
  unfold methodCall calleeOf methodCallPos
  rw [hf]
  simp only [if_true, hp, Bool.not_true, Bool.or_true, Bool.false_or]
  rfl
/-- the built-in __init__, bound to a fresh exception, is called: its args are laid anew -/
theorem mw_call {prog : Program} {w : World} {A : Around} {E : Value → Shared → Prop} {h : Heap} {g : Array GenState} {d : Drawn} {t : Nat} {os : OsState} {B newId initId : String} {bmB : List Value} {C x u t0 N : Addr}
    {nm q : Str} {bs bm : List Value} {hdct : Bool} {sn : List Str} {sub : List Value} {ab : Bool} {col : Option Bool} {dd : Option Addr} {k0 k1 k2 k3 k5 : Option Value} {rest : List Value} {Q : Value → Shared → Prop}
    (FB : ExcBaseFacts B newId initId bmB) (hC : h.get? C = some (excClassObj nm q C N bs bm hdct sn sub ab col dd k0 k1 k2 k3 k5 newId)) (he : h.get? x = some (excO C t0)) (hu : h.get? u = some (kxs_mw initId x)) (hz : rest.length ≤ sizeLine)
    (hq : ∀ h', (∀ b o, b ≠ x → h.get? b = some o → h'.get? b = some o) → h'.get? x = some (excO C h.objs.size) → Q .none ⟨h', g, d, t, os⟩) :
    wpAny (model prog w) A (call (.ref u) rest) Q E ⟨h, g, d, t, os⟩ := by
  have e1 : (Value.type "method-wrapper" == Value.type "method" || Value.type "method-wrapper" == Value.type "builtin_function_or_method" || Value.type "method-wrapper" == Value.type "method-wrapper") = true := by decide
  apply wpAny_call
  apply codeAny_of_tree
  change wpAny (model prog w) A.in1 (callAny (Value.ref u) (Args.mk rest [])) _ _ _
  simp only [callAny]
  apply wpAny_bind
  refine wpAny_load hu ?_
  simp only [kxs_mw, e1, if_true]
  refine KFB.if_so (by decide) (wpAny_bind (check_bound_init FB.toExcCallFacts hC he rfl (wpAny_bind (wpAny_pure (wpAny_pure ⟨plainId_quiet FB.init.plain _, codeAny_builtin FB.initEntry ?_⟩)))))
  exact exc_init_tree (cls := .ref C) (t0 := t0) (dv := none) (c2 := .none) (c3 := .none) (b4 := .bool false) he hz fun h' a1 a2 _ => hq h' a1 a2
/-- what the written part says of an exception class C whose __init__ at fI is the text above with the field f -/
structure ETxt (prog : Program) (K : Frag) (mg : Str → Option Value) (B newId initId : String) (bmB : List Value) (C fI : Addr) (f : Str) : Prop where
  cls : excInitIn K C bmB newId = true
  over : excOver K C bmB = true
  hd : hasDictIn K C = true
  sa : findIn K (.ref C) "__setattr__" = some (some (.builtin "object.__setattr__"))
  noF : findIn K (.ref C) f = some none
  iC : findIn K (.ref C) "__init__" = some (some (.ref fI))
  tI : typeIn K (.ref fI) = some (.type "function")
  fn : ∃ (qual : Str) (oc : Value) (od : Option Addr) (kV doc pm : Value) (an : Option Addr) (cda : Addr) (ct : Value) (cc : Addr) (osl : Array (Option Value)) (p1 p2 q1 q2 q3 q4 q5 q6 q7 q8 q9 q10 : Pos) (ccl : Value) (cdd : Option Addr) (vs : Array Value) (ccs : Array (Option Value)) (file : Str) (tf : Tok) (cl : Value) (cld : Option Addr) (csl : Array (Option Value)),
    K.lookup fI = some ⟨oc, od, .func (ksFn "__init__" qual (iA f p1 p2) (iB f q1 q2 q3 q4 q5 q6 q7 q8 q9 q10) (iS f) .none kV doc pm an (.ref cda) ct cc), osl⟩ ∧ codeIn K (.ref cda) qual = true ∧
      K.lookup cda = some ⟨ccl, cdd, .fields vs, ccs⟩ ∧ vs[2]? = some (.str file tf) ∧ ((prog.main.file : Str) == file) = true ∧ K.lookup cc = some ⟨cl, cld, .cell (some (.ref C)), csl⟩ ∧ (q3.endLine == q5.line) = true
  sup : ks_superIn K C C "__init__" = some (some (.builtin initId))
  subB : subIn K (.ref C) (.type B) = some true
  mro : mroIn K C (.ref C) = some true
  opq : nsIn K cStatics "thirdparty.any" = some none
  gs : mg "super" = none
  top : (prog.main.scope.names.lookup ("super" : Str)).isSome = false
/-- what __init__ leaves of a fresh exception at x -/
structure InitEnd (h h' : Heap) (x C dx t1 : Addr) (f : Str) (v : Value) : Prop where
  keep : ∀ b o, b ≠ x → h.get? b = some o → h'.get? b = some o
  obj : h'.get? x = some { cls := .ref C, dict := some dx, data := .fields #[.ref t1, .none, .none, .none, .bool false, .none] }
  dbig : h.objs.size ≤ dx
  dne : dx ≠ x
  ns : h'.Ns1 dx (fun y => if y = f then some v else none)
/-- an exception made by its class's call -/
structure OwnMade (h h' : Heap) (e C d : Addr) (f : Str) (v : Value) : Prop where
  keep : ∀ b o, h.get? b = some o → h'.get? b = some o
  new : h.objs.size ≤ e
  obj : ∃ t1 : Addr, h'.get? e = some { cls := .ref C, dict := some d, data := .fields #[.ref t1, .none, .none, .none, .bool false, .none] }
  dbig : h.objs.size ≤ d
  dne : d ≠ e
  ns : h'.Ns1 d (fun y => if y = f then some v else none)
section
variable {prog : Program} {w : World} {A : Around} {R : Result → Shared → Prop} {s : Shared} {K : Frag} {mg mb : Str → Option Value} {B newId initId : String} {bmB : List Value} {C fI : Addr}
theorem init_value (FB : ExcBaseFacts B newId initId bmB) (KF : KxsFacts B initId) (SF : StoreFacts B bmB "object.__setattr__" "object") (T : ETxt prog K mg B newId initId bmB C fI "value")
    {x t0 : Addr} {v : Value} (X : K.In s.heap) (hg : s.heap.Ns mainGlobals mg) (hb : s.heap.Ns builtinsNs mb) (hsb : mb "super" = some (.type "super")) (hlim : s.heap.NoLimit)
    (hx : s.heap.get? x = some (excO C t0)) (hnx : K.lookup x = none) (hroom : A.depth < recursionLimit)
    {args : Args} (hargs : args = ⟨[.ref x, v], []⟩ ∨ args = ⟨[.ref x], [("value", v)]⟩)
    (hq : ∀ h' tk dx t1, InitEnd s.heap h' x C dx t1 "value" v → R (.ok (.ret .none)) { s with heap := h', toks := tk }) :
    codeAny (model prog w) A (.call (.ref fI) args) R s := by
  obtain ⟨qual, oc, od, kV, doc, pm, an, cda, ct, cc, osl, p1, p2, q1, q2, q3, q4, q5, q6, q7, q8, q9, q10, ccl, cdd, vs, ccs, file, tf, cl, cld, csl, ho, hcd, hco, hvs, hfile, hcell, hq35⟩ := T.fn
  obtain ⟨nm, N, qn, bs, bm, hdct, sn, sub, ab, col, dd, k0, k1, k2, k3, k5, hC, hT⟩ := excInit_of X T.cls
  have k1 : (iS "value").names.lookup ("value" : Str) = some .local := by decide +kernel
  have k2 : (iS "value").names.lookup ("__class__" : Str) = some .free := by decide +kernel
  have k3 : (iS "value").names.lookup ("super" : Str) = some .globalImplicit := by decide +kernel
  have k4 : (iS "value").names.lookup ("self" : Str) = some .local := by decide +kernel
  have hxL : s.heap.objs.size ≠ x := Nat.ne_of_gt (Heap.lt_size hx)
  refine ks_codeAny_call_defAt (fd := ksFn "__init__" qual (iA "value" p1 p2) (iB "value" q1 q2 q3 q4 q5 q6 q7 q8 q9 q10) (iS "value") .none kV doc pm an (.ref cda) ct cc) (body := iB "value" q1 q2 q3 q4 q5 q6 q7 q8 q9 q10)
    (binds := [("self", .ref x), ("value", v)]) hroom (X _ _ ho) rfl hlim (codeRec_of X hcd) rfl (BindsTo.of_eq ?_) ?_ ?_ (fun h1 hns k => ?_)
  · rcases hargs with rfl | rfl
    · first | rfl | with_unfolding_all rfl
    · first | rfl | with_unfolding_all rfl | kernel_rfl
  · intro y hy
    have hy' : y ∈ ([("self", .local), ("value", .local), ("__class__", .free), ("super", .globalImplicit)] : List (Str × NameKind)) := hy
    simp only [List.mem_cons, List.not_mem_nil, or_false] at hy'
    rcases hy' with rfl | rfl | rfl | rfl <;> exact fun z => nomatch z
  · intro y hy
    simp only [List.mem_cons, List.not_mem_nil, or_false] at hy
    rcases hy with rfl | rfl
    · exact k4
    · exact k1
  · have X1 : K.In h1 := X.keeps k
    have hx1 := k _ _ hx
    have nL : s.heap.objs.size < h1.objs.size := hns.lt
    have ms : (fun y => List.lookup y ([("self", Value.ref x), ("value", v)] : List (Str × Value)).reverse) ("self" : Str) = some (.ref x) := by first | rfl | with_unfolding_all rfl | kernel_rfl
    have mf : (fun y => List.lookup y ([("self", Value.ref x), ("value", v)] : List (Str × Value)).reverse) ("value" : Str) = some v := by first | rfl | with_unfolding_all rfl | kernel_rfl
    refine ks_wpAt_execs_cons (ks_wpAt_Expr_any (ks_wpAt_MethodCall ?_ (mcall_eq hq35 rfl)))
    refine ks_wpAt_super_base (f := fI) (cc := cda) k3 k2 (by decide +kernel) rfl (X1 _ _ ho) rfl rfl rfl (X1 _ _ hco) rfl hvs hfile T.top ?_
    refine ks_loadName_global rfl k3 (loadGlobal_builtin (hg.keeps k) T.gs (hb.keeps k) hsb ⟨rfl, ?_⟩)
    refine wpAny_loadName_free rfl k2 rfl ⟨_, X1 _ _ hcell, rfl⟩ ?_
    refine wpAny_loadName_local rfl k4 hns ms ?_
    obtain ⟨hp, gg, dr, tk, os⟩ := s
    have hC1 := k _ _ hC
    refine ks_wpAny_isType_cls hC1 rfl ⟨rfl, ?_⟩
    refine ks_wpAny_call_super hC1 rfl hx1 rfl (fun c z => by cases z) (looks_mroIn X1 T.mro) (fun h2 e2 k2' => ?_)
    have X2 : K.In h2 := X1.keeps k2'
    have hx2 := k2' _ _ hx1
    have I2 : InstAt h2 x (excO C t0) C none := ⟨hx2, rfl, rfl, trivial⟩
    have hI : Looks (model prog w) h2 (isInstance (.ref x) (.type B)) true := I2.type.andThen (looks_subIn X2 T.subB)
    cases hc : clsIn K C with
    | none =>
      have z := T.sup
      unfold ks_superIn at z
      rw [hc] at z
      cases z
    | some cd =>
      have hm := T.sup
      unfold ks_superIn at hm
      rw [hc] at hm
      refine kxs_getMethod KF (so := h1.objs.size) (D := C) (x := x) (C := C) e2 (looks_opaque X2 T.opq) (l₀ := cd.mro) (fun A Q E s k q => wpAny_bind ((looks_clsIn X2 hc) A _ E s k (wpAny_pure q))) rfl X2 hm hI (ks_ne X2 I2 hc) (by decide +kernel) ?_
      have kA : ∀ b o, hp.get? b = some o → (h2.push (kxs_mw initId x)).get? b = some o := fun b o e => Heap.get?_push_of_some _ (k2' _ _ (k _ _ e))
      have eu : (h2.push (kxs_mw initId x)).get? h2.objs.size = some (kxs_mw initId x) := Heap.get?_push_at rfl rfl
      have ns3 : (h2.push (kxs_mw initId x)).Ns hp.objs.size _ := hns.keeps fun b o e => Heap.get?_push_of_some _ (k2' _ _ e)
      refine kxs_callWith (i := initId) (x := x) rfl (evalArgs_plain (Calls.spliced_cons (wpAny_Name (wpAny_loadName_local rfl k1 ns3 mf ?_) (by decide +kernel))))
      refine Calls.spliced_nil ⟨eu, ?_⟩
      have hx3 : (h2.push (kxs_mw initId x)).get? x = some (excO C t0) := Heap.get?_push_of_some _ hx2
      have fin : ∀ h', (∀ b o, b ≠ x → (h2.push (kxs_mw initId x)).get? b = some o → h'.get? b = some o) → h'.get? x = some (excO C (h2.push (kxs_mw initId x)).objs.size) →
          wpAt (model prog w) (A.deeper (callEnv (ksFn "__init__" qual (iA "value" p1 p2) (iB "value" q1 q2 q3 q4 q5 q6 q7 q8 q9 q10) (iS "value") .none kV doc pm an (.ref cda) ct cc) hp.objs.size fI)) (.func (iB "value" q1 q2 q3 q4 q5 q6 q7 q8 q9 q10) (callEnv (ksFn "__init__" qual (iA "value" p1 p2) (iB "value" q1 q2 q3 q4 q5 q6 q7 q8 q9 q10) (iS "value") .none kV doc pm an (.ref cda) ct cc) hp.objs.size fI))
            (execs [.Assign [.Attribute (.Name "self" q7) "value" q8] (.Name "value" q9) q10] (callEnv (ksFn "__init__" qual (iA "value" p1 p2) (iB "value" q1 q2 q3 q4 q5 q6 q7 q8 q9 q10) (iS "value") .none kV doc pm an (.ref cda) ct cc) hp.objs.size fI))
            (fun f s' => R (.ok (.ret (match f with | .ret v => v | _ => .none))) s')
            (fun e s' => wpAny (model prog w) (A.deeper (callEnv (ksFn "__init__" qual (iA "value" p1 p2) (iB "value" q1 q2 q3 q4 q5 q6 q7 q8 q9 q10) (iS "value") .none kV doc pm an (.ref cda) ct cc) hp.objs.size fI)) (leaving (callEnv (ksFn "__init__" qual (iA "value" p1 p2) (iB "value" q1 q2 q3 q4 q5 q6 q7 q8 q9 q10) (iS "value") .none kV doc pm an (.ref cda) ct cc) hp.objs.size fI) e) (fun _ s'' => R (.error e) s'') (fun e' s'' => R (.error e') s'') s')
            ⟨h', gg, dr, tk + 2 + 1, os⟩ := fun h' k3' e3 => by
        have kB : ∀ b o, b ≠ x → hp.get? b = some o → h'.get? b = some o := fun b o hb e => k3' b o hb (kA b o e)
        have X4 : K.In h' := fun b o e => k3' b o (fun z => by rw [z, hnx] at e; cases e) (kA b o (X b o e))
        have ns4 : h'.Ns hp.objs.size (fun y => List.lookup y ([("self", Value.ref x), ("value", v)] : List (Str × Value)).reverse) := by
          obtain ⟨oL, es, ep, e1, e2⟩ := ns3
          exact ⟨oL, es, ep, k3' _ _ hxL e1, e2⟩
        refine ks_wpAt_execs_cons (ks_wpAt_Assign_Attr (wpAt_of_wpAny (wpAny_Name (wpAny_loadName_local rfl k1 ns4 mf ?_) (by decide +kernel))))
        refine wpAny_Name (wpAny_loadName_local rfl k4 ns4 ms ?_) (by decide +kernel)
        refine set_plain X4 (ox := excO C (h2.push (kxs_mw initId x)).objs.size) (od := none) ⟨e3, rfl, rfl, trivial⟩ T.sa ?_
        have hcd' : cd.hasDict = true := by
          have z := T.hd
          unfold hasDictIn at z
          rw [hc] at z
          exact z
        refine osa_first SF X4 e3 hc T.over hcd' T.noF fun h5 tk5 dx k5' d1 d2 e5 n5 => ?_
        refine wpAt_of_wpAny (wpAny_execs_nil ?_)
        have z1 : hp.objs.size < h'.objs.size := by
          obtain ⟨oL, es, ep, e1, e2⟩ := ns4
          exact Heap.lt_size e1
        exact hq h5 tk5 dx _ ⟨fun b o hb e => k5' b o hb (kB b o hb e), e5, Nat.le_of_lt (Nat.lt_of_lt_of_le z1 d1), d2, n5⟩
      refine mw_call FB (Heap.get?_push_of_some _ (k2' _ _ hC1)) hx3 eu (by rw [sizeLine_eq]; exact (by decide : 1 ≤ 16777216)) fun h' a1 a2 => ?_
      exact fin h' a1 a2
theorem made_value (FB : ExcBaseFacts B newId initId bmB) (KF : KxsFacts B initId) (SF : StoreFacts B bmB "object.__setattr__" "object") (T : ETxt prog K mg B newId initId bmB C fI "value")
    {v : Value} (X : K.In s.heap) (hg : s.heap.Ns mainGlobals mg) (hb : s.heap.Ns builtinsNs mb) (hsb : mb "super" = some (.type "super")) (hlim : s.heap.NoLimit) (hroom : A.depth + 1 < recursionLimit)
    (hq : ∀ h' tk e d, OwnMade s.heap h' e C d "value" v → R (.ok (.ret (.ref e))) { s with heap := h', toks := tk }) :
    codeAny (model prog w) A (.call (.ref C) ⟨[v], []⟩) R s := by
  obtain ⟨nm, N, qn, bs, bm, hdct, sn, sub, ab, col, dd, k0, k1, k2, k3, k5, hC, hT⟩ := excInit_of X T.cls
  obtain ⟨hp, gg, dr, tk, os⟩ := s
  have k : ∀ b o, hp.get? b = some o → ((hp.push (kdv_tup [v])).push (excO C hp.objs.size)).get? b = some o := fun b o e => Heap.get?_push_of_some _ (Heap.get?_push_of_some _ e)
  have g1 : ((hp.push (kdv_tup [v])).push (excO C hp.objs.size)).get? (hp.objs.size + 1) = some (excO C hp.objs.size) := by heap_get
  have nK : K.lookup (hp.objs.size + 1) = none := by
    cases e : K.lookup (hp.objs.size + 1) with
    | none => rfl
    | some o => exact absurd (Nat.lt_of_succ_lt (Heap.lt_size (X _ _ e))) (Nat.lt_irrefl _)
  refine call_own FB hT hC (looks_findIn X T.iC) (fun self => bind_fn X self T.tI) (by rw [sizeLine_eq]; exact (by decide : 1 ≤ 16777216)) ?_
  refine init_value (s := ⟨(hp.push (kdv_tup [v])).push (excO C hp.objs.size), gg, dr, tk, os⟩) FB KF SF T (X.keeps k) (hg.keeps k) (hb.keeps k) hsb (hlim.keeps k) g1 nK (show A.depth + 1 < recursionLimit from hroom) (.inl rfl) fun h' tk' dx t1 Z => ?_
  have old : ∀ b o, hp.get? b = some o → h'.get? b = some o := fun b o e => Z.keep b o (Nat.ne_of_lt (Nat.lt_succ_of_lt (Heap.lt_size e))) (k b o e)
  have z : hp.objs.size + 1 + 1 ≤ dx := by
    have q := Z.dbig
    first
      | exact q
      | (rw [Heap.size_push, Heap.size_push] at q; exact q)
      | (simpa only [Heap.size_push] using q)
  exact ⟨rfl, hq h' tk' (hp.objs.size + 1) dx ⟨old, Nat.le_succ _, ⟨_, Z.obj⟩, Nat.le_trans (Nat.le_add_right _ 2) z, Z.dne, Z.ns⟩⟩
end
section
variable {prog : Program} {w : World} {A : Around} {R : Result → Shared → Prop} {s : Shared} {K : Frag} {mg mb : Str → Option Value} {B newId initId : String} {bmB : List Value} {C fI : Addr}
theorem init_index (FB : ExcBaseFacts B newId initId bmB) (KF : KxsFacts B initId) (SF : StoreFacts B bmB "object.__setattr__" "object") (T : ETxt prog K mg B newId initId bmB C fI "index")
    {x t0 : Addr} {v : Value} (X : K.In s.heap) (hg : s.heap.Ns mainGlobals mg) (hb : s.heap.Ns builtinsNs mb) (hsb : mb "super" = some (.type "super")) (hlim : s.heap.NoLimit)
    (hx : s.heap.get? x = some (excO C t0)) (hnx : K.lookup x = none) (hroom : A.depth < recursionLimit)
    {args : Args} (hargs : args = ⟨[.ref x, v], []⟩ ∨ args = ⟨[.ref x], [("index", v)]⟩)
    (hq : ∀ h' tk dx t1, InitEnd s.heap h' x C dx t1 "index" v → R (.ok (.ret .none)) { s with heap := h', toks := tk }) :
    codeAny (model prog w) A (.call (.ref fI) args) R s := by
  obtain ⟨qual, oc, od, kV, doc, pm, an, cda, ct, cc, osl, p1, p2, q1, q2, q3, q4, q5, q6, q7, q8, q9, q10, ccl, cdd, vs, ccs, file, tf, cl, cld, csl, ho, hcd, hco, hvs, hfile, hcell, hq35⟩ := T.fn
  obtain ⟨nm, N, qn, bs, bm, hdct, sn, sub, ab, col, dd, k0, k1, k2, k3, k5, hC, hT⟩ := excInit_of X T.cls
  have k1 : (iS "index").names.lookup ("index" : Str) = some .local := by decide +kernel
  have k2 : (iS "index").names.lookup ("__class__" : Str) = some .free := by decide +kernel
  have k3 : (iS "index").names.lookup ("super" : Str) = some .globalImplicit := by decide +kernel
  have k4 : (iS "index").names.lookup ("self" : Str) = some .local := by decide +kernel
  have hxL : s.heap.objs.size ≠ x := Nat.ne_of_gt (Heap.lt_size hx)
  refine ks_codeAny_call_defAt (fd := ksFn "__init__" qual (iA "index" p1 p2) (iB "index" q1 q2 q3 q4 q5 q6 q7 q8 q9 q10) (iS "index") .none kV doc pm an (.ref cda) ct cc) (body := iB "index" q1 q2 q3 q4 q5 q6 q7 q8 q9 q10)
    (binds := [("self", .ref x), ("index", v)]) hroom (X _ _ ho) rfl hlim (codeRec_of X hcd) rfl (BindsTo.of_eq ?_) ?_ ?_ (fun h1 hns k => ?_)
  · rcases hargs with rfl | rfl
    · first | rfl | with_unfolding_all rfl
    · first | rfl | with_unfolding_all rfl | kernel_rfl
  · intro y hy
    have hy' : y ∈ ([("self", .local), ("index", .local), ("__class__", .free), ("super", .globalImplicit)] : List (Str × NameKind)) := hy
    simp only [List.mem_cons, List.not_mem_nil, or_false] at hy'
    rcases hy' with rfl | rfl | rfl | rfl <;> exact fun z => nomatch z
  · intro y hy
    simp only [List.mem_cons, List.not_mem_nil, or_false] at hy
    rcases hy with rfl | rfl
    · exact k4
    · exact k1
  · have X1 : K.In h1 := X.keeps k
    have hx1 := k _ _ hx
    have nL : s.heap.objs.size < h1.objs.size := hns.lt
    have ms : (fun y => List.lookup y ([("self", Value.ref x), ("index", v)] : List (Str × Value)).reverse) ("self" : Str) = some (.ref x) := by first | rfl | with_unfolding_all rfl | kernel_rfl
    have mf : (fun y => List.lookup y ([("self", Value.ref x), ("index", v)] : List (Str × Value)).reverse) ("index" : Str) = some v := by first | rfl | with_unfolding_all rfl | kernel_rfl
    refine ks_wpAt_execs_cons (ks_wpAt_Expr_any (ks_wpAt_MethodCall ?_ (mcall_eq hq35 rfl)))
    refine ks_wpAt_super_base (f := fI) (cc := cda) k3 k2 (by decide +kernel) rfl (X1 _ _ ho) rfl rfl rfl (X1 _ _ hco) rfl hvs hfile T.top ?_
    refine ks_loadName_global rfl k3 (loadGlobal_builtin (hg.keeps k) T.gs (hb.keeps k) hsb ⟨rfl, ?_⟩)
    refine wpAny_loadName_free rfl k2 rfl ⟨_, X1 _ _ hcell, rfl⟩ ?_
    refine wpAny_loadName_local rfl k4 hns ms ?_
    obtain ⟨hp, gg, dr, tk, os⟩ := s
    have hC1 := k _ _ hC
    refine ks_wpAny_isType_cls hC1 rfl ⟨rfl, ?_⟩
    refine ks_wpAny_call_super hC1 rfl hx1 rfl (fun c z => by cases z) (looks_mroIn X1 T.mro) (fun h2 e2 k2' => ?_)
    have X2 : K.In h2 := X1.keeps k2'
    have hx2 := k2' _ _ hx1
    have I2 : InstAt h2 x (excO C t0) C none := ⟨hx2, rfl, rfl, trivial⟩
    have hI : Looks (model prog w) h2 (isInstance (.ref x) (.type B)) true := I2.type.andThen (looks_subIn X2 T.subB)
    cases hc : clsIn K C with
    | none =>
      have z := T.sup
      unfold ks_superIn at z
      rw [hc] at z
      cases z
    | some cd =>
      have hm := T.sup
      unfold ks_superIn at hm
      rw [hc] at hm
      refine kxs_getMethod KF (so := h1.objs.size) (D := C) (x := x) (C := C) e2 (looks_opaque X2 T.opq) (l₀ := cd.mro) (fun A Q E s k q => wpAny_bind ((looks_clsIn X2 hc) A _ E s k (wpAny_pure q))) rfl X2 hm hI (ks_ne X2 I2 hc) (by decide +kernel) ?_
      have kA : ∀ b o, hp.get? b = some o → (h2.push (kxs_mw initId x)).get? b = some o := fun b o e => Heap.get?_push_of_some _ (k2' _ _ (k _ _ e))
      have eu : (h2.push (kxs_mw initId x)).get? h2.objs.size = some (kxs_mw initId x) := Heap.get?_push_at rfl rfl
      have ns3 : (h2.push (kxs_mw initId x)).Ns hp.objs.size _ := hns.keeps fun b o e => Heap.get?_push_of_some _ (k2' _ _ e)
      refine kxs_callWith (i := initId) (x := x) rfl (evalArgs_plain (Calls.spliced_cons (wpAny_Name (wpAny_loadName_local rfl k1 ns3 mf ?_) (by decide +kernel))))
      refine Calls.spliced_nil ⟨eu, ?_⟩
      have hx3 : (h2.push (kxs_mw initId x)).get? x = some (excO C t0) := Heap.get?_push_of_some _ hx2
      have fin : ∀ h', (∀ b o, b ≠ x → (h2.push (kxs_mw initId x)).get? b = some o → h'.get? b = some o) → h'.get? x = some (excO C (h2.push (kxs_mw initId x)).objs.size) →
          wpAt (model prog w) (A.deeper (callEnv (ksFn "__init__" qual (iA "index" p1 p2) (iB "index" q1 q2 q3 q4 q5 q6 q7 q8 q9 q10) (iS "index") .none kV doc pm an (.ref cda) ct cc) hp.objs.size fI)) (.func (iB "index" q1 q2 q3 q4 q5 q6 q7 q8 q9 q10) (callEnv (ksFn "__init__" qual (iA "index" p1 p2) (iB "index" q1 q2 q3 q4 q5 q6 q7 q8 q9 q10) (iS "index") .none kV doc pm an (.ref cda) ct cc) hp.objs.size fI))
            (execs [.Assign [.Attribute (.Name "self" q7) "index" q8] (.Name "index" q9) q10] (callEnv (ksFn "__init__" qual (iA "index" p1 p2) (iB "index" q1 q2 q3 q4 q5 q6 q7 q8 q9 q10) (iS "index") .none kV doc pm an (.ref cda) ct cc) hp.objs.size fI))
            (fun f s' => R (.ok (.ret (match f with | .ret v => v | _ => .none))) s')
            (fun e s' => wpAny (model prog w) (A.deeper (callEnv (ksFn "__init__" qual (iA "index" p1 p2) (iB "index" q1 q2 q3 q4 q5 q6 q7 q8 q9 q10) (iS "index") .none kV doc pm an (.ref cda) ct cc) hp.objs.size fI)) (leaving (callEnv (ksFn "__init__" qual (iA "index" p1 p2) (iB "index" q1 q2 q3 q4 q5 q6 q7 q8 q9 q10) (iS "index") .none kV doc pm an (.ref cda) ct cc) hp.objs.size fI) e) (fun _ s'' => R (.error e) s'') (fun e' s'' => R (.error e') s'') s')
            ⟨h', gg, dr, tk + 2 + 1, os⟩ := fun h' k3' e3 => by
        have kB : ∀ b o, b ≠ x → hp.get? b = some o → h'.get? b = some o := fun b o hb e => k3' b o hb (kA b o e)
        have X4 : K.In h' := fun b o e => k3' b o (fun z => by rw [z, hnx] at e; cases e) (kA b o (X b o e))
        have ns4 : h'.Ns hp.objs.size (fun y => List.lookup y ([("self", Value.ref x), ("index", v)] : List (Str × Value)).reverse) := by
          obtain ⟨oL, es, ep, e1, e2⟩ := ns3
          exact ⟨oL, es, ep, k3' _ _ hxL e1, e2⟩
        refine ks_wpAt_execs_cons (ks_wpAt_Assign_Attr (wpAt_of_wpAny (wpAny_Name (wpAny_loadName_local rfl k1 ns4 mf ?_) (by decide +kernel))))
        refine wpAny_Name (wpAny_loadName_local rfl k4 ns4 ms ?_) (by decide +kernel)
        refine set_plain X4 (ox := excO C (h2.push (kxs_mw initId x)).objs.size) (od := none) ⟨e3, rfl, rfl, trivial⟩ T.sa ?_
        have hcd' : cd.hasDict = true := by
          have z := T.hd
          unfold hasDictIn at z
          rw [hc] at z
          exact z
        refine osa_first SF X4 e3 hc T.over hcd' T.noF fun h5 tk5 dx k5' d1 d2 e5 n5 => ?_
        refine wpAt_of_wpAny (wpAny_execs_nil ?_)
        have z1 : hp.objs.size < h'.objs.size := by
          obtain ⟨oL, es, ep, e1, e2⟩ := ns4
          exact Heap.lt_size e1
        exact hq h5 tk5 dx _ ⟨fun b o hb e => k5' b o hb (kB b o hb e), e5, Nat.le_of_lt (Nat.lt_of_lt_of_le z1 d1), d2, n5⟩
      refine mw_call FB (Heap.get?_push_of_some _ (k2' _ _ hC1)) hx3 eu (by rw [sizeLine_eq]; exact (by decide : 1 ≤ 16777216)) fun h' a1 a2 => ?_
      exact fin h' a1 a2
theorem made_index (FB : ExcBaseFacts B newId initId bmB) (KF : KxsFacts B initId) (SF : StoreFacts B bmB "object.__setattr__" "object") (T : ETxt prog K mg B newId initId bmB C fI "index")
    {v : Value} (X : K.In s.heap) (hg : s.heap.Ns mainGlobals mg) (hb : s.heap.Ns builtinsNs mb) (hsb : mb "super" = some (.type "super")) (hlim : s.heap.NoLimit) (hroom : A.depth + 1 < recursionLimit)
    (hq : ∀ h' tk e d, OwnMade s.heap h' e C d "index" v → R (.ok (.ret (.ref e))) { s with heap := h', toks := tk }) :
    codeAny (model prog w) A (.call (.ref C) ⟨[v], []⟩) R s := by
  obtain ⟨nm, N, qn, bs, bm, hdct, sn, sub, ab, col, dd, k0, k1, k2, k3, k5, hC, hT⟩ := excInit_of X T.cls
  obtain ⟨hp, gg, dr, tk, os⟩ := s
  have k : ∀ b o, hp.get? b = some o → ((hp.push (kdv_tup [v])).push (excO C hp.objs.size)).get? b = some o := fun b o e => Heap.get?_push_of_some _ (Heap.get?_push_of_some _ e)
  have g1 : ((hp.push (kdv_tup [v])).push (excO C hp.objs.size)).get? (hp.objs.size + 1) = some (excO C hp.objs.size) := by heap_get
  have nK : K.lookup (hp.objs.size + 1) = none := by
    cases e : K.lookup (hp.objs.size + 1) with
    | none => rfl
    | some o => exact absurd (Nat.lt_of_succ_lt (Heap.lt_size (X _ _ e))) (Nat.lt_irrefl _)
  refine call_own FB hT hC (looks_findIn X T.iC) (fun self => bind_fn X self T.tI) (by rw [sizeLine_eq]; exact (by decide : 1 ≤ 16777216)) ?_
  refine init_index (s := ⟨(hp.push (kdv_tup [v])).push (excO C hp.objs.size), gg, dr, tk, os⟩) FB KF SF T (X.keeps k) (hg.keeps k) (hb.keeps k) hsb (hlim.keeps k) g1 nK (show A.depth + 1 < recursionLimit from hroom) (.inl rfl) fun h' tk' dx t1 Z => ?_
  have old : ∀ b o, hp.get? b = some o → h'.get? b = some o := fun b o e => Z.keep b o (Nat.ne_of_lt (Nat.lt_succ_of_lt (Heap.lt_size e))) (k b o e)
  have z : hp.objs.size + 1 + 1 ≤ dx := by
    have q := Z.dbig
    first
      | exact q
      | (rw [Heap.size_push, Heap.size_push] at q; exact q)
      | (simpa only [Heap.size_push] using q)
  exact ⟨rfl, hq h' tk' (hp.objs.size + 1) dx ⟨old, Nat.le_succ _, ⟨_, Z.obj⟩, Nat.le_trans (Nat.le_add_right _ 2) z, Z.dne, Z.ns⟩⟩
end
section
variable {prog : Program} {w : World} {A : Around} {R : Result → Shared → Prop} {s : Shared} {K : Frag} {mg mb : Str → Option Value} {B newId initId : String} {bmB : List Value} {C fI : Addr}
theorem init_limit (FB : ExcBaseFacts B newId initId bmB) (KF : KxsFacts B initId) (SF : StoreFacts B bmB "object.__setattr__" "object") (T : ETxt prog K mg B newId initId bmB C fI "limit")
    {x t0 : Addr} {v : Value} (X : K.In s.heap) (hg : s.heap.Ns mainGlobals mg) (hb : s.heap.Ns builtinsNs mb) (hsb : mb "super" = some (.type "super")) (hlim : s.heap.NoLimit)
    (hx : s.heap.get? x = some (excO C t0)) (hnx : K.lookup x = none) (hroom : A.depth < recursionLimit)
    {args : Args} (hargs : args = ⟨[.ref x, v], []⟩ ∨ args = ⟨[.ref x], [("limit", v)]⟩)
    (hq : ∀ h' tk dx t1, InitEnd s.heap h' x C dx t1 "limit" v → R (.ok (.ret .none)) { s with heap := h', toks := tk }) :
    codeAny (model prog w) A (.call (.ref fI) args) R s := by
  obtain ⟨qual, oc, od, kV, doc, pm, an, cda, ct, cc, osl, p1, p2, q1, q2, q3, q4, q5, q6, q7, q8, q9, q10, ccl, cdd, vs, ccs, file, tf, cl, cld, csl, ho, hcd, hco, hvs, hfile, hcell, hq35⟩ := T.fn
  obtain ⟨nm, N, qn, bs, bm, hdct, sn, sub, ab, col, dd, k0, k1, k2, k3, k5, hC, hT⟩ := excInit_of X T.cls
  have k1 : (iS "limit").names.lookup ("limit" : Str) = some .local := by decide +kernel
  have k2 : (iS "limit").names.lookup ("__class__" : Str) = some .free := by decide +kernel
  have k3 : (iS "limit").names.lookup ("super" : Str) = some .globalImplicit := by decide +kernel
  have k4 : (iS "limit").names.lookup ("self" : Str) = some .local := by decide +kernel
  have hxL : s.heap.objs.size ≠ x := Nat.ne_of_gt (Heap.lt_size hx)
  refine ks_codeAny_call_defAt (fd := ksFn "__init__" qual (iA "limit" p1 p2) (iB "limit" q1 q2 q3 q4 q5 q6 q7 q8 q9 q10) (iS "limit") .none kV doc pm an (.ref cda) ct cc) (body := iB "limit" q1 q2 q3 q4 q5 q6 q7 q8 q9 q10)
    (binds := [("self", .ref x), ("limit", v)]) hroom (X _ _ ho) rfl hlim (codeRec_of X hcd) rfl (BindsTo.of_eq ?_) ?_ ?_ (fun h1 hns k => ?_)
  · rcases hargs with rfl | rfl
    · first | rfl | with_unfolding_all rfl
    · first | rfl | with_unfolding_all rfl | kernel_rfl
  · intro y hy
    have hy' : y ∈ ([("self", .local), ("limit", .local), ("__class__", .free), ("super", .globalImplicit)] : List (Str × NameKind)) := hy
    simp only [List.mem_cons, List.not_mem_nil, or_false] at hy'
    rcases hy' with rfl | rfl | rfl | rfl <;> exact fun z => nomatch z
  · intro y hy
    simp only [List.mem_cons, List.not_mem_nil, or_false] at hy
    rcases hy with rfl | rfl
    · exact k4
    · exact k1
  · have X1 : K.In h1 := X.keeps k
    have hx1 := k _ _ hx
    have nL : s.heap.objs.size < h1.objs.size := hns.lt
    have ms : (fun y => List.lookup y ([("self", Value.ref x), ("limit", v)] : List (Str × Value)).reverse) ("self" : Str) = some (.ref x) := by first | rfl | with_unfolding_all rfl | kernel_rfl
    have mf : (fun y => List.lookup y ([("self", Value.ref x), ("limit", v)] : List (Str × Value)).reverse) ("limit" : Str) = some v := by first | rfl | with_unfolding_all rfl | kernel_rfl
    refine ks_wpAt_execs_cons (ks_wpAt_Expr_any (ks_wpAt_MethodCall ?_ (mcall_eq hq35 rfl)))
    refine ks_wpAt_super_base (f := fI) (cc := cda) k3 k2 (by decide +kernel) rfl (X1 _ _ ho) rfl rfl rfl (X1 _ _ hco) rfl hvs hfile T.top ?_
    refine ks_loadName_global rfl k3 (loadGlobal_builtin (hg.keeps k) T.gs (hb.keeps k) hsb ⟨rfl, ?_⟩)
    refine wpAny_loadName_free rfl k2 rfl ⟨_, X1 _ _ hcell, rfl⟩ ?_
    refine wpAny_loadName_local rfl k4 hns ms ?_
    obtain ⟨hp, gg, dr, tk, os⟩ := s
    have hC1 := k _ _ hC
    refine ks_wpAny_isType_cls hC1 rfl ⟨rfl, ?_⟩
    refine ks_wpAny_call_super hC1 rfl hx1 rfl (fun c z => by cases z) (looks_mroIn X1 T.mro) (fun h2 e2 k2' => ?_)
    have X2 : K.In h2 := X1.keeps k2'
    have hx2 := k2' _ _ hx1
    have I2 : InstAt h2 x (excO C t0) C none := ⟨hx2, rfl, rfl, trivial⟩
    have hI : Looks (model prog w) h2 (isInstance (.ref x) (.type B)) true := I2.type.andThen (looks_subIn X2 T.subB)
    cases hc : clsIn K C with
    | none =>
      have z := T.sup
      unfold ks_superIn at z
      rw [hc] at z
      cases z
    | some cd =>
      have hm := T.sup
      unfold ks_superIn at hm
      rw [hc] at hm
      refine kxs_getMethod KF (so := h1.objs.size) (D := C) (x := x) (C := C) e2 (looks_opaque X2 T.opq) (l₀ := cd.mro) (fun A Q E s k q => wpAny_bind ((looks_clsIn X2 hc) A _ E s k (wpAny_pure q))) rfl X2 hm hI (ks_ne X2 I2 hc) (by decide +kernel) ?_
      have kA : ∀ b o, hp.get? b = some o → (h2.push (kxs_mw initId x)).get? b = some o := fun b o e => Heap.get?_push_of_some _ (k2' _ _ (k _ _ e))
      have eu : (h2.push (kxs_mw initId x)).get? h2.objs.size = some (kxs_mw initId x) := Heap.get?_push_at rfl rfl
      have ns3 : (h2.push (kxs_mw initId x)).Ns hp.objs.size _ := hns.keeps fun b o e => Heap.get?_push_of_some _ (k2' _ _ e)
      refine kxs_callWith (i := initId) (x := x) rfl (evalArgs_plain (Calls.spliced_cons (wpAny_Name (wpAny_loadName_local rfl k1 ns3 mf ?_) (by decide +kernel))))
      refine Calls.spliced_nil ⟨eu, ?_⟩
      have hx3 : (h2.push (kxs_mw initId x)).get? x = some (excO C t0) := Heap.get?_push_of_some _ hx2
      have fin : ∀ h', (∀ b o, b ≠ x → (h2.push (kxs_mw initId x)).get? b = some o → h'.get? b = some o) → h'.get? x = some (excO C (h2.push (kxs_mw initId x)).objs.size) →
          wpAt (model prog w) (A.deeper (callEnv (ksFn "__init__" qual (iA "limit" p1 p2) (iB "limit" q1 q2 q3 q4 q5 q6 q7 q8 q9 q10) (iS "limit") .none kV doc pm an (.ref cda) ct cc) hp.objs.size fI)) (.func (iB "limit" q1 q2 q3 q4 q5 q6 q7 q8 q9 q10) (callEnv (ksFn "__init__" qual (iA "limit" p1 p2) (iB "limit" q1 q2 q3 q4 q5 q6 q7 q8 q9 q10) (iS "limit") .none kV doc pm an (.ref cda) ct cc) hp.objs.size fI))
            (execs [.Assign [.Attribute (.Name "self" q7) "limit" q8] (.Name "limit" q9) q10] (callEnv (ksFn "__init__" qual (iA "limit" p1 p2) (iB "limit" q1 q2 q3 q4 q5 q6 q7 q8 q9 q10) (iS "limit") .none kV doc pm an (.ref cda) ct cc) hp.objs.size fI))
            (fun f s' => R (.ok (.ret (match f with | .ret v => v | _ => .none))) s')
            (fun e s' => wpAny (model prog w) (A.deeper (callEnv (ksFn "__init__" qual (iA "limit" p1 p2) (iB "limit" q1 q2 q3 q4 q5 q6 q7 q8 q9 q10) (iS "limit") .none kV doc pm an (.ref cda) ct cc) hp.objs.size fI)) (leaving (callEnv (ksFn "__init__" qual (iA "limit" p1 p2) (iB "limit" q1 q2 q3 q4 q5 q6 q7 q8 q9 q10) (iS "limit") .none kV doc pm an (.ref cda) ct cc) hp.objs.size fI) e) (fun _ s'' => R (.error e) s'') (fun e' s'' => R (.error e') s'') s')
            ⟨h', gg, dr, tk + 2 + 1, os⟩ := fun h' k3' e3 => by
        have kB : ∀ b o, b ≠ x → hp.get? b = some o → h'.get? b = some o := fun b o hb e => k3' b o hb (kA b o e)
        have X4 : K.In h' := fun b o e => k3' b o (fun z => by rw [z, hnx] at e; cases e) (kA b o (X b o e))
        have ns4 : h'.Ns hp.objs.size (fun y => List.lookup y ([("self", Value.ref x), ("limit", v)] : List (Str × Value)).reverse) := by
          obtain ⟨oL, es, ep, e1, e2⟩ := ns3
          exact ⟨oL, es, ep, k3' _ _ hxL e1, e2⟩
        refine ks_wpAt_execs_cons (ks_wpAt_Assign_Attr (wpAt_of_wpAny (wpAny_Name (wpAny_loadName_local rfl k1 ns4 mf ?_) (by decide +kernel))))
        refine wpAny_Name (wpAny_loadName_local rfl k4 ns4 ms ?_) (by decide +kernel)
        refine set_plain X4 (ox := excO C (h2.push (kxs_mw initId x)).objs.size) (od := none) ⟨e3, rfl, rfl, trivial⟩ T.sa ?_
        have hcd' : cd.hasDict = true := by
          have z := T.hd
          unfold hasDictIn at z
          rw [hc] at z
          exact z
        refine osa_first SF X4 e3 hc T.over hcd' T.noF fun h5 tk5 dx k5' d1 d2 e5 n5 => ?_
        refine wpAt_of_wpAny (wpAny_execs_nil ?_)
        have z1 : hp.objs.size < h'.objs.size := by
          obtain ⟨oL, es, ep, e1, e2⟩ := ns4
          exact Heap.lt_size e1
        exact hq h5 tk5 dx _ ⟨fun b o hb e => k5' b o hb (kB b o hb e), e5, Nat.le_of_lt (Nat.lt_of_lt_of_le z1 d1), d2, n5⟩
      refine mw_call FB (Heap.get?_push_of_some _ (k2' _ _ hC1)) hx3 eu (by rw [sizeLine_eq]; exact (by decide : 1 ≤ 16777216)) fun h' a1 a2 => ?_
      exact fin h' a1 a2
theorem made_limit (FB : ExcBaseFacts B newId initId bmB) (KF : KxsFacts B initId) (SF : StoreFacts B bmB "object.__setattr__" "object") (T : ETxt prog K mg B newId initId bmB C fI "limit")
    {v : Value} (X : K.In s.heap) (hg : s.heap.Ns mainGlobals mg) (hb : s.heap.Ns builtinsNs mb) (hsb : mb "super" = some (.type "super")) (hlim : s.heap.NoLimit) (hroom : A.depth + 1 < recursionLimit)
    (hq : ∀ h' tk e d, OwnMade s.heap h' e C d "limit" v → R (.ok (.ret (.ref e))) { s with heap := h', toks := tk }) :
    codeAny (model prog w) A (.call (.ref C) ⟨[v], []⟩) R s := by
  obtain ⟨nm, N, qn, bs, bm, hdct, sn, sub, ab, col, dd, k0, k1, k2, k3, k5, hC, hT⟩ := excInit_of X T.cls
  obtain ⟨hp, gg, dr, tk, os⟩ := s
  have k : ∀ b o, hp.get? b = some o → ((hp.push (kdv_tup [v])).push (excO C hp.objs.size)).get? b = some o := fun b o e => Heap.get?_push_of_some _ (Heap.get?_push_of_some _ e)
  have g1 : ((hp.push (kdv_tup [v])).push (excO C hp.objs.size)).get? (hp.objs.size + 1) = some (excO C hp.objs.size) := by heap_get
  have nK : K.lookup (hp.objs.size + 1) = none := by
    cases e : K.lookup (hp.objs.size + 1) with
    | none => rfl
    | some o => exact absurd (Nat.lt_of_succ_lt (Heap.lt_size (X _ _ e))) (Nat.lt_irrefl _)
  refine call_own FB hT hC (looks_findIn X T.iC) (fun self => bind_fn X self T.tI) (by rw [sizeLine_eq]; exact (by decide : 1 ≤ 16777216)) ?_
  refine init_limit (s := ⟨(hp.push (kdv_tup [v])).push (excO C hp.objs.size), gg, dr, tk, os⟩) FB KF SF T (X.keeps k) (hg.keeps k) (hb.keeps k) hsb (hlim.keeps k) g1 nK (show A.depth + 1 < recursionLimit from hroom) (.inl rfl) fun h' tk' dx t1 Z => ?_
  have old : ∀ b o, hp.get? b = some o → h'.get? b = some o := fun b o e => Z.keep b o (Nat.ne_of_lt (Nat.lt_succ_of_lt (Heap.lt_size e))) (k b o e)
  have z : hp.objs.size + 1 + 1 ≤ dx := by
    have q := Z.dbig
    first
      | exact q
      | (rw [Heap.size_push, Heap.size_push] at q; exact q)
      | (simpa only [Heap.size_push] using q)
  exact ⟨rfl, hq h' tk' (hp.objs.size + 1) dx ⟨old, Nat.le_succ _, ⟨_, Z.obj⟩, Nat.le_trans (Nat.le_add_right _ 2) z, Z.dne, Z.ns⟩⟩
end
end XS
end PySem
set_option Elab.async false
set_option linter.all false
set_option maxRecDepth 100000
set_option maxHeartbeats 2000000
namespace PySem
namespace XS
open PySem.W PySem.Calls PyProof.Rows PySem.HandSPX
/-! ### the same class called by name: C(f = v) -/
section
variable {prog : Program} {w : World} {M : Model} {A : Around} {E : Value → Shared → Prop} {R : Result → Shared → Prop} {h : Heap} {g : Array GenState} {d : Drawn} {t : Nat} {os : OsState}
variable {nm q : Str} {C N : Addr} {bs bm bmB : List Value} {hdct : Bool} {sn : List Str} {sub : List Value} {ab : Bool} {col : Option Bool} {dd : Option Addr} {k0 k1 k2 k3 k5 : Option Value} {B newId initId : String} {kws : List (Str × Value)}
theorem kw_check (FB : ExcBaseFacts B newId initId bmB) (hT : ∀ Y : String, bm.contains (.type Y) = bmB.contains (.type Y)) {Q : Unit → Shared → Prop}
    (hC : h.get? C = some (excClassObj nm q C N bs bm hdct sn sub ab col dd k0 k1 k2 k3 k5 newId)) (hq : Q () ⟨h, g, d, t, os⟩) :
    wpAny M A (checkBuiltinCall newId ⟨[.ref C], kws⟩) Q E ⟨h, g, d, t, os⟩ := by
  have inB : (Value.ref C :: bm).contains (.type B) = true := by
    rw [List.contains_cons, hT, FB.hasB]
    exact Bool.or_true _
  have star := FB.noStar
  simp only [checkBuiltinCall, FB.newKind, FB.newSplit, FB.newRow]
  repeat (first
    | refine wpAny_loadPart_at hC ?_
    | (refine wpAny_isSubtype_exc hC ?_; rw [inB])
    | refine wpAny_staticBase_exc hC ?_
    | refine wpAny_madeBy_exc hC ?_
    | simp only [bne_self_eq_false, Bool.false_eq_true, if_false]
    | wp_step)
  exact hq
theorem kw_new (FB : ExcBaseFacts B newId initId bmB) (hT : ∀ Y : String, bm.contains (.type Y) = bmB.contains (.type Y))
    (hC : h.get? C = some (excClassObj nm q C N bs bm hdct sn sub ab col dd k0 k1 k2 k3 k5 newId))
    (hq : R (.ok (.ret (.ref (h.objs.size + 1)))) ⟨(h.push { cls := .type "tuple", data := .seq #[] }).push (excO C h.objs.size), g, d, t, os⟩) :
    codeAny (model prog w) A (.builtin newId ⟨[.ref C], kws⟩) R ⟨h, g, d, t, os⟩ := by
  have inB : (Value.ref C :: bm).contains (.type B) = true := by
    rw [List.contains_cons, hT, FB.hasB]
    exact Bool.or_true _
  have noA : (Value.ref C :: bm).contains (.type "AttributeError") = false := by
    rw [List.contains_cons, hT, FB.noAttr]
    rfl
  have noN : (Value.ref C :: bm).contains (.type "NameError") = false := by
    rw [List.contains_cons, hT, FB.noName]
    rfl
  have ends := FB.ends
  have small : ([] : List Value).length ≤ sizeLine := Nat.zero_le _
  refine codeAny_builtinAt FB.entry ?_
  unfold Builtin.«BaseException.__new__»
  apply wpAt_bind
  change wpAt _ _ _ (stack >>= _) _ _ _
  refine wpAt_bind (wpAt_stack fun _ _ => wpAt_of_wpAny ?_)
  wp_walk
  apply wpAt_of_wpAny
  rw [FB.owner]
  repeat (first
    | with_reducible refine wpAny_madeHere_exc FB.canon hC ?_
    | with_reducible refine wpAny_loadPart_at hC ?_
    | (with_reducible refine wpAny_isSubtype_exc hC ?_; first | rw [inB] | rw [noA] | rw [noN])
    | wp_step)
  change R _ _
  rw [Heap.size_push]
  exact hq
theorem kw_type_call (FB : ExcBaseFacts B newId initId bmB) (hT : ∀ Y : String, bm.contains (.type Y) = bmB.contains (.type Y)) {fI : Addr} {Q : Fin → Shared → Prop}
    (hC : h.get? C = some (excClassObj nm q C N bs bm hdct sn sub ab col dd k0 k1 k2 k3 k5 newId))
    (hi : Looks (model prog w) h (typeLookup (.ref C) "__init__") (some (.ref fI))) (hb : ∀ self, Looks (model prog w) h (bindSpecial (.ref fI) self) (.ref fI, [self]))
    (hq : codeAny (model prog w) A (.call (.ref fI) ⟨[.ref (h.objs.size + 1)], kws⟩)
      (fun r s' => match r with | .ok (.ret v) => v = .none ∧ Q (.done (.ret (.ref (h.objs.size + 1)))) s' | .ok _ => False | .error e => E e s')
      ⟨(h.push (kdv_tup [])).push (excO C h.objs.size), g, d, t, os⟩) :
    wpAny (model prog w) A (Builtin.«type.__call__» ⟨[.ref C], kws⟩) Q E ⟨h, g, d, t, os⟩ := by
  repeat (first | with_reducible refine wpAny_loadPart_at hC ?_ | with_reducible refine wpAny_madeBy_exc hC ?_ | wp_step)
  refine codeAny_call_builtin_code (Code.quiet_builtin _ FB.quiet) (kw_check FB hT hC (kw_new FB hT hC ?_))
  change wpAny _ _ _ _ _ _
  have kp : ∀ b o, h.get? b = some o → ((h.push (kdv_tup [])).push (excO C h.objs.size)).get? b = some o := fun b o z => Heap.get?_push_of_some _ (Heap.get?_push_of_some _ z)
  have hC1 := kp _ _ hC
  have at1 : ((h.push (kdv_tup [])).push (excO C h.objs.size)).get? (h.objs.size + 1) = some (excO C h.objs.size) := by heap_get
  have inC : (Value.ref C :: bm).contains (.ref C) = true := by simp
  have i1 := hi.keeps kp
  have b1 := (hb (.ref (h.objs.size + 1))).keeps kp
  unfold isInstance
  repeat (first
    | with_reducible refine wpAny_loadPart_at at1 ?_
    | (with_reducible refine wpAny_isSubtype_exc hC1 ?_; rw [inC])
    | wp_step)
  change wpAny _ _ (typeLookup (.ref C) _) _ _ _
  refine i1.at (wpAny_holding (wpAny_bind (b1.at (wpAny_bind (wpAny_call (codeAny_mono hq fun r s' z => ?_))))))
  rcases r with e | (v | _ | _ | _) <;> first | exact z | exact z.elim | skip
  obtain ⟨rfl, z⟩ := z
  first
    | exact wpAny_pure (wpAny_pure z)
    | (wp_walk; exact z)
theorem kw_check_tc {Q : Unit → Shared → Prop} (hC : h.get? C = some (excClassObj nm q C N bs bm hdct sn sub ab col dd k0 k1 k2 k3 k5 newId))
    (hq : Q () ⟨h, g, d, t, os⟩) : wpAny M A (checkBuiltinCall "type.__call__" ⟨[.ref C], kws⟩) Q E ⟨h, g, d, t, os⟩ := by
  have f3 := tc_sub
  have ty : (⟨h, g, d, t, os⟩ : Shared).TypeIs (.ref C) "type" := ⟨_, hC, rfl⟩
  simp only [checkBuiltinCall, tc_kind, tc_split]
  repeat (any_goals (first | assumption | with_reducible refine wpAny_loadPart_at hC ?_ | with_reducible refine wpAny_onRaise ?_ | with_reducible refine wpAny_map ?_ | wp_step))
theorem kw_call (FB : ExcBaseFacts B newId initId bmB) (hT : ∀ Y : String, bm.contains (.type Y) = bmB.contains (.type Y)) {fI : Addr}
    (hC : h.get? C = some (excClassObj nm q C N bs bm hdct sn sub ab col dd k0 k1 k2 k3 k5 newId))
    (hi : Looks (model prog w) h (typeLookup (.ref C) "__init__") (some (.ref fI))) (hb : ∀ self, Looks (model prog w) h (bindSpecial (.ref fI) self) (.ref fI, [self]))
    (hq : codeAny (model prog w) (A.under (.builtin "type.__call__" ⟨[.ref C], kws⟩)) (.call (.ref fI) ⟨[.ref (h.objs.size + 1)], kws⟩) (InitBack (h.objs.size + 1) R)
      ⟨(h.push (kdv_tup [])).push (excO C h.objs.size), g, d, t, os⟩) :
    codeAny (model prog w) A (.call (.ref C) ⟨[], kws⟩) R ⟨h, g, d, t, os⟩ := by
  have f1 := tc_lookup
  have f2 := tc_bind (.ref C)
  have ty : (⟨h, g, d, t, os⟩ : Shared).TypeIs (.ref C) "type" := ⟨_, hC, rfl⟩
  apply codeAny_of_tree
  change wpAny _ _ (callAny (.ref C) _) _ _ _
  repeat (any_goals (first | assumption | with_reducible refine wpAny_loadPart_at hC ?_ | wp_step))
  refine ⟨rfl, codeAny_call_builtin_at (Code.quiet_builtin _ (by decide +kernel)) entry_typeCall (kw_check_tc hC (kw_type_call FB hT hC hi hb ?_))⟩
  refine codeAny_mono hq fun r s' z => ?_
  rcases r with e | (v | _ | _ | _) <;> exact z
end
section
variable {prog : Program} {w : World} {A : Around} {R : Result → Shared → Prop} {s : Shared} {K : Frag} {mg mb : Str → Option Value} {B newId initId : String} {bmB : List Value} {C fI : Addr}
theorem madeK_value (FB : ExcBaseFacts B newId initId bmB) (KF : KxsFacts B initId) (SF : StoreFacts B bmB "object.__setattr__" "object") (T : ETxt prog K mg B newId initId bmB C fI "value")
    {v : Value} (X : K.In s.heap) (hg : s.heap.Ns mainGlobals mg) (hb : s.heap.Ns builtinsNs mb) (hsb : mb "super" = some (.type "super")) (hlim : s.heap.NoLimit) (hroom : A.depth + 1 < recursionLimit)
    (hq : ∀ h' tk e d, OwnMade s.heap h' e C d "value" v → R (.ok (.ret (.ref e))) { s with heap := h', toks := tk }) :
    codeAny (model prog w) A (.call (.ref C) ⟨[], [("value", v)]⟩) R s := by
  obtain ⟨nm, N, qn, bs, bm, hdct, sn, sub, ab, col, dd, k0, k1, k2, k3, k5, hC, hT⟩ := excInit_of X T.cls
  obtain ⟨hp, gg, dr, tk, os⟩ := s
  have k : ∀ b o, hp.get? b = some o → ((hp.push (kdv_tup [])).push (excO C hp.objs.size)).get? b = some o := fun b o e => Heap.get?_push_of_some _ (Heap.get?_push_of_some _ e)
  have g1 : ((hp.push (kdv_tup [])).push (excO C hp.objs.size)).get? (hp.objs.size + 1) = some (excO C hp.objs.size) := by heap_get
  have nK : K.lookup (hp.objs.size + 1) = none := by
    cases e : K.lookup (hp.objs.size + 1) with
    | none => rfl
    | some o => exact absurd (Nat.lt_of_succ_lt (Heap.lt_size (X _ _ e))) (Nat.lt_irrefl _)
  refine kw_call FB hT hC (looks_findIn X T.iC) (fun self => bind_fn X self T.tI) ?_
  refine init_value (s := ⟨(hp.push (kdv_tup [])).push (excO C hp.objs.size), gg, dr, tk, os⟩) (v := v) FB KF SF T (X.keeps k) (hg.keeps k) (hb.keeps k) hsb (hlim.keeps k) g1 nK (show A.depth + 1 < recursionLimit from hroom) (.inr rfl) fun h' tk' dx t1 Z => ?_
  have old : ∀ b o, hp.get? b = some o → h'.get? b = some o := fun b o e => Z.keep b o (Nat.ne_of_lt (Nat.lt_succ_of_lt (Heap.lt_size e))) (k b o e)
  have z : hp.objs.size + 1 + 1 ≤ dx := by
    have q := Z.dbig
    first
      | exact q
      | (rw [Heap.size_push, Heap.size_push] at q; exact q)
      | (simpa only [Heap.size_push] using q)
  exact ⟨rfl, hq h' tk' (hp.objs.size + 1) dx ⟨old, Nat.le_succ _, ⟨_, Z.obj⟩, Nat.le_trans (Nat.le_add_right _ 2) z, Z.dne, Z.ns⟩⟩
end
section
variable {prog : Program} {w : World} {A : Around} {R : Result → Shared → Prop} {s : Shared} {K : Frag} {mg mb : Str → Option Value} {B newId initId : String} {bmB : List Value} {C fI : Addr}
theorem madeK_index (FB : ExcBaseFacts B newId initId bmB) (KF : KxsFacts B initId) (SF : StoreFacts B bmB "object.__setattr__" "object") (T : ETxt prog K mg B newId initId bmB C fI "index")
    {v : Value} (X : K.In s.heap) (hg : s.heap.Ns mainGlobals mg) (hb : s.heap.Ns builtinsNs mb) (hsb : mb "super" = some (.type "super")) (hlim : s.heap.NoLimit) (hroom : A.depth + 1 < recursionLimit)
    (hq : ∀ h' tk e d, OwnMade s.heap h' e C d "index" v → R (.ok (.ret (.ref e))) { s with heap := h', toks := tk }) :
    codeAny (model prog w) A (.call (.ref C) ⟨[], [("index", v)]⟩) R s := by
  obtain ⟨nm, N, qn, bs, bm, hdct, sn, sub, ab, col, dd, k0, k1, k2, k3, k5, hC, hT⟩ := excInit_of X T.cls
  obtain ⟨hp, gg, dr, tk, os⟩ := s
  have k : ∀ b o, hp.get? b = some o → ((hp.push (kdv_tup [])).push (excO C hp.objs.size)).get? b = some o := fun b o e => Heap.get?_push_of_some _ (Heap.get?_push_of_some _ e)
  have g1 : ((hp.push (kdv_tup [])).push (excO C hp.objs.size)).get? (hp.objs.size + 1) = some (excO C hp.objs.size) := by heap_get
  have nK : K.lookup (hp.objs.size + 1) = none := by
    cases e : K.lookup (hp.objs.size + 1) with
    | none => rfl
    | some o => exact absurd (Nat.lt_of_succ_lt (Heap.lt_size (X _ _ e))) (Nat.lt_irrefl _)
  refine kw_call FB hT hC (looks_findIn X T.iC) (fun self => bind_fn X self T.tI) ?_
  refine init_index (s := ⟨(hp.push (kdv_tup [])).push (excO C hp.objs.size), gg, dr, tk, os⟩) (v := v) FB KF SF T (X.keeps k) (hg.keeps k) (hb.keeps k) hsb (hlim.keeps k) g1 nK (show A.depth + 1 < recursionLimit from hroom) (.inr rfl) fun h' tk' dx t1 Z => ?_
  have old : ∀ b o, hp.get? b = some o → h'.get? b = some o := fun b o e => Z.keep b o (Nat.ne_of_lt (Nat.lt_succ_of_lt (Heap.lt_size e))) (k b o e)
  have z : hp.objs.size + 1 + 1 ≤ dx := by
    have q := Z.dbig
    first
      | exact q
      | (rw [Heap.size_push, Heap.size_push] at q; exact q)
      | (simpa only [Heap.size_push] using q)
  exact ⟨rfl, hq h' tk' (hp.objs.size + 1) dx ⟨old, Nat.le_succ _, ⟨_, Z.obj⟩, Nat.le_trans (Nat.le_add_right _ 2) z, Z.dne, Z.ns⟩⟩
end
section
variable {prog : Program} {w : World} {A : Around} {R : Result → Shared → Prop} {s : Shared} {K : Frag} {mg mb : Str → Option Value} {B newId initId : String} {bmB : List Value} {C fI : Addr}
theorem madeK_limit (FB : ExcBaseFacts B newId initId bmB) (KF : KxsFacts B initId) (SF : StoreFacts B bmB "object.__setattr__" "object") (T : ETxt prog K mg B newId initId bmB C fI "limit")
    {v : Value} (X : K.In s.heap) (hg : s.heap.Ns mainGlobals mg) (hb : s.heap.Ns builtinsNs mb) (hsb : mb "super" = some (.type "super")) (hlim : s.heap.NoLimit) (hroom : A.depth + 1 < recursionLimit)
    (hq : ∀ h' tk e d, OwnMade s.heap h' e C d "limit" v → R (.ok (.ret (.ref e))) { s with heap := h', toks := tk }) :
    codeAny (model prog w) A (.call (.ref C) ⟨[], [("limit", v)]⟩) R s := by
  obtain ⟨nm, N, qn, bs, bm, hdct, sn, sub, ab, col, dd, k0, k1, k2, k3, k5, hC, hT⟩ := excInit_of X T.cls
  obtain ⟨hp, gg, dr, tk, os⟩ := s
  have k : ∀ b o, hp.get? b = some o → ((hp.push (kdv_tup [])).push (excO C hp.objs.size)).get? b = some o := fun b o e => Heap.get?_push_of_some _ (Heap.get?_push_of_some _ e)
  have g1 : ((hp.push (kdv_tup [])).push (excO C hp.objs.size)).get? (hp.objs.size + 1) = some (excO C hp.objs.size) := by heap_get
  have nK : K.lookup (hp.objs.size + 1) = none := by
    cases e : K.lookup (hp.objs.size + 1) with
    | none => rfl
    | some o => exact absurd (Nat.lt_of_succ_lt (Heap.lt_size (X _ _ e))) (Nat.lt_irrefl _)
  refine kw_call FB hT hC (looks_findIn X T.iC) (fun self => bind_fn X self T.tI) ?_
  refine init_limit (s := ⟨(hp.push (kdv_tup [])).push (excO C hp.objs.size), gg, dr, tk, os⟩) (v := v) FB KF SF T (X.keeps k) (hg.keeps k) (hb.keeps k) hsb (hlim.keeps k) g1 nK (show A.depth + 1 < recursionLimit from hroom) (.inr rfl) fun h' tk' dx t1 Z => ?_
  have old : ∀ b o, hp.get? b = some o → h'.get? b = some o := fun b o e => Z.keep b o (Nat.ne_of_lt (Nat.lt_succ_of_lt (Heap.lt_size e))) (k b o e)
  have z : hp.objs.size + 1 + 1 ≤ dx := by
    have q := Z.dbig
    first
      | exact q
      | (rw [Heap.size_push, Heap.size_push] at q; exact q)
      | (simpa only [Heap.size_push] using q)
  exact ⟨rfl, hq h' tk' (hp.objs.size + 1) dx ⟨old, Nat.le_succ _, ⟨_, Z.obj⟩, Nat.le_trans (Nat.le_add_right _ 2) z, Z.dne, Z.ns⟩⟩
end
end XS
end PySem
set_option Elab.async false
set_option linter.all false
set_option maxRecDepth 100000
set_option maxHeartbeats 2000000
namespace PySem
namespace XS
open PySem.W PySem.Calls PyProof.Rows PySem.HandSPX
/-- C(v) makes an exception with the one field f; C(f = v) the same -/
def Makes (P : Program) (w : World) (K : Frag) (mg : Str → Option Value) (C : Addr) (f : Str) (args : Value → Args) : Prop :=
  ∀ (A : Around) (s : Shared) (mb : Str → Option Value) (v : Value) (R : Result → Shared → Prop), K.In s.heap → s.heap.Ns mainGlobals mg → s.heap.Ns builtinsNs mb → mb "super" = some (.type "super") → s.heap.NoLimit →
    A.depth + 1 < recursionLimit → (∀ h' tk e d, OwnMade s.heap h' e C d f v → R (.ok (.ret (.ref e))) { s with heap := h', toks := tk }) → codeAny (model P w) A (.call (.ref C) (args v)) R s
/-- what isinstance and a field's reading ask of the class -/
structure ECls (K : Frag) (C : Addr) : Prop where
  isC : (clsIn K C).isSome = true
  ga : findIn K (.ref C) "__getattribute__" = some (some (.builtin "BaseException.__getattribute__"))
  gg : findIn K (.ref C) "__getattr__" = some none
  exC : subIn K (.ref C) (.type "BaseException") = some true
  hd : hasDictIn K C = true
  cl : findIn K (.ref C) "__class__" = some (some (.builtin "object.__class__"))
  cg : specialIn K (.builtin "object.__class__") "__get__" = some (some (.builtin "getset_descriptor.__get__"))
  tk : takesIn K (.builtin "object.__class__") = some true
  ob : mroIn K C (.type "object") = some true
  kC : keepIn K (.ref C) = true
end XS
end PySem
namespace L2
open PySem PySem.Spec PyProof.Rows PySem.XS
/-- an exception of the class at C stands at a, with the one field f -/
def ExAt (H : Hp) (a C : Addr) (f : Str) (v : V) : Prop := ∃ d, H a = some (exo a C (some d)) ∧ H d = some (exd d [(f, v)])
/-- an exception of the class at C stands at a -/
def ExIs (H : Hp) (a C : Addr) : Prop := ∃ d, H a = some (exo a C d) ∧ ∀ y, d = some y → ∃ fs, H y = some (exd y fs)
theorem ExAt.is {H : Hp} {a C : Addr} {f : Str} {v : V} (h : ExAt H a C f v) : ExIs H a C := by
  obtain ⟨d, h1, h2⟩ := h
  exact ⟨_, h1, fun y z => by cases z; exact ⟨_, h2⟩⟩
theorem ExAt.mono {H H' : Hp} {a C : Addr} {f : Str} {v : V} (h : ExAt H a C f v) (s : Same H H') : ExAt H' a C f v := by
  obtain ⟨d, h1, h2⟩ := h
  exact ⟨d, s _ _ h1, s _ _ h2⟩
theorem ExIs.mono {H H' : Hp} {a C : Addr} (h : ExIs H a C) (s : Same H H') : ExIs H' a C := by
  obtain ⟨d, h1, h2⟩ := h
  exact ⟨d, s _ _ h1, fun y z => let ⟨fs, e⟩ := h2 y z; ⟨fs, s _ _ e⟩⟩
theorem relO_one {f g : Str} {v : V} {u : Value} (r : RelV v u) : RelO (List.lookup g [(f, v)]) (if g = f then some u else none) := by
  rw [lookup_put]
  by_cases e : g = f
  · rw [if_pos e, if_pos e]
    exact r
  · rw [if_neg e, if_neg e]
    exact True.intro
section
variable {X : Cx} {C : Addr} {f x : Str} {e : Expr} {te : TE} {ta : TA} {p pos : Pos}
/-- C(e): a new exception; all that was tracked stands -/
def tMkE (C : Addr) (f : Str) (ta : TA) : TE := fun σ H Q => ta σ H fun vs H1 => ∃ v, vs = [v] ∧ ∀ a H2, H1 a = none → Same H1 H2 → ExAt H2 a C f v → Q (.ref a) H2
theorem mkE_run {pins : List (Addr × Obj)} {σ : St} {H : Hp} {s : Shared} {v : V} {u : Value} {Q : VK} {args : Value → Args} (M : Makes X.prog X.w X.K X.mg C f args) (hr : Room 1 X.A) (I : Inv X pins σ H s) (r : RelV v u)
    (h : ∀ a H2, H a = none → Same H H2 → ExAt H2 a C f v → Q (.ref a) H2) : wpAny (model X.prog X.w) X.A (call (.ref C) (args u).pos (args u).kw) (EP X pins σ Q) X.xe s := by
  obtain ⟨mb, hmb, hbb⟩ := I.mod.blt
  have hlim := I.nolimit
  have hg := I.mod.glob.keeps I.bk
  have hb := hmb.keeps I.bk
  have kin := I.kIn
  obtain ⟨hp, g, dr, tk, os⟩ := s
  refine wpAny_call (M X.A ⟨hp, g, dr, tk, os⟩ mb u _ kin hg hb ((hbb _ (by decide +kernel)).trans (by decide +kernel)) hlim (by have := hr.dp; omega) fun h' tk' a d Z => ?_)
  obtain ⟨t1, ha⟩ := Z.obj
  obtain ⟨G, g1, g2⟩ := restrict h' fun b => decide (b ≠ a)
  have gk : ∀ b, b ≠ a → G.get? b = h'.get? b := fun b hb => g1 b (decide_eq_true hb)
  have ga : G.get? a = none := g2 a (by simp)
  have old : ∀ b o, hp.get? b = some o → G.get? b = some o := fun b o q => (gk b (Nat.ne_of_lt (Nat.lt_of_lt_of_le (Heap.lt_size q) Z.new))).trans (Z.keep b o q)
  have od : ObjOk X.prog X.w (upd H d (exd d [(f, v)])) G d (exd d [(f, v)]) := exd_ok (Z.ns.at fun o q => (gk d Z.dne).trans q) fun y => relO_one r
  have J : Inv X pins σ (upd H d (exd d [(f, v)])) ⟨G, g, dr, tk', os⟩ := I.laid (t' := tk') old Z.dbig od
  have na : H a = none := I.hok.fresh Z.new
  have nd : H d = none := I.hok.fresh Z.dbig
  have na' : upd H d (exd d [(f, v)]) a = none := by
    rw [upd_ne (Ne.symm Z.dne)]
    exact na
  have J2 := J.laidN (h' := h') (o := exo a C (some d)) (t' := tk') (fun b o q => by
    by_cases hb : b = a
    · have q' : G.get? b = some o := q
      rw [hb, ga] at q'
      cases q'
    · exact (gk b hb).symm.trans q) ga na' (exo_ok ha)
  refine ⟨.ref a, _, J2, rfl, h a _ na (fun b o q => ?_) ⟨d, upd_same, ?_⟩⟩
  · rw [upd_ne (ne_of_none q na), upd_ne (ne_of_none q nd)]
    exact q
  · rw [upd_ne Z.dne, upd_same]
theorem pe_mkE (M : Makes X.prog X.w X.K X.mg C f fun v => ⟨[v], []⟩) (hr : Room 1 X.A) (hm : X.mg x = some (.ref C)) (hk : PySem.W.keepIn X.K (.ref C) = true) (ha : PA X [e] ta) (hg : Gl X x := by rfl)
    (hs : starEach (e :: []) X.env = (false, eval e X.env) :: starEach [] X.env := by rfl) (hpl : (backTo pos (starEach [] X.env)).any (·.1) = false := by rfl) (hdb : (x == ("__debug__" : Str)) = false := by decide +kernel) :
    PE X (.Call (.Name x p) [e] [] pos) (tMkE C f ta) := by
  refine ⟨fun pins s σ H Q I h => ?_⟩
  refine wpAny_Call_Name_kw (ld_glob I hg hm ?_ hdb)
  refine PySem.W.callWith_K (h₀ := X.base) I.ok.mod.kin hk (thn (ha.run pos pins s σ H _ I h) fun us s1 hh => ?_) hs hpl
  · obtain ⟨vs, H1, I1, r1, v, ev, q1⟩ := hh
    subst ev
    refine ⟨I1.kIn, ?_⟩
    cases r1 with
    | cons rv rn =>
      cases rn
      exact mkE_run M hr I1 rv q1
/-- C(f = e) -/
theorem pe_mkEK {tk : TA} {kws : List Keyword} (M : Makes X.prog X.w X.K X.mg C f fun v => ⟨[], [(f, v)]⟩) (hr : Room 1 X.A) (hm : X.mg x = some (.ref C)) (hk : PySem.W.keepIn X.K (.ref C) = true) (hkw : PK X kws tk) (hg : Gl X x := by rfl)
    (hall : (backToKw pos (keywordEach kws X.env)).all (·.1.isSome) = true := by rfl) (hks : (backToKw pos (keywordEach kws X.env)).filterMap (·.1) = [f] := by rfl)
    (hpl : ((backTo pos (starEach [] X.env)).any (·.1) || (backToKw pos (keywordEach kws X.env)).any (·.1.isNone)) = false := by rfl) (hdb : (x == ("__debug__" : Str)) = false := by decide +kernel) :
    PE X (.Call (.Name x p) [] kws pos) (tMkE C f tk) := by
  refine ⟨fun pins s σ H Q I h => ?_⟩
  refine wpAny_Call_Name_kw (ld_glob I hg hm ?_ hdb)
  refine PySem.W.callWith_KW0 (h₀ := X.base) I.ok.mod.kin hk hall ?_ hpl
  refine thn (hkw.run pos pins s σ H _ I h) fun ws s2 hh => ?_
  obtain ⟨zs, H2, I2, rz, v, ev, q1⟩ := hh
  subst ev
  refine ⟨I2.kIn, ?_⟩
  rw [hks]
  cases rz with
  | cons rv rn =>
    cases rn
    exact mkE_run M hr I2 rv q1
/-- what the written part says of an exception class without an __init__ of its own -/
structure E0Txt (K : PySem.W.Frag) (B newId initId : String) (bmB : List Value) (C : Addr) : Prop where
  cls : PySem.W.excInitIn K C bmB newId = true
  iC : PySem.W.findIn K (.ref C) "__init__" = some (some (.builtin initId))
/-- C(), C an exception class without an __init__ of its own -/
def tMkE0 (C : Addr) : TE := fun σ H Q => ∀ a H2, H a = none → Same H H2 → ExIs H2 a C → Q (.ref a) H2
theorem pe_mkE0 {B newId initId : String} {bmB : List Value} (FB : ExcBaseFacts B newId initId bmB) (T : E0Txt X.K B newId initId bmB C) (hm : X.mg x = some (.ref C)) (hk : PySem.W.keepIn X.K (.ref C) = true) (hg : Gl X x := by rfl) (hdb : (x == ("__debug__" : Str)) = false := by decide +kernel) :
    PE X (.Call (.Name x p) [] [] pos) (tMkE0 C) := by
  refine ⟨fun pins s σ H Q I h => ?_⟩
  refine wpAny_Call_Name_kw (ld_glob I hg hm ?_ hdb)
  refine PySem.W.callWith_K0 I.kIn hk ?_
  obtain ⟨nm, N', qn, bs, bm, hdct, sn, sub, ab, col, dd, k0, k1, k2, k3, k5, hC, hT⟩ := PySem.W.excInit_of I.kIn T.cls
  have hi : PySem.W.Looks (model X.prog X.w) s.heap (typeLookup (.ref C) "__init__") (some (.builtin initId)) := PySem.W.looks_findIn I.kIn T.iC
  obtain ⟨hp, g, dr, tk, os⟩ := s
  refine PySem.W.call_B FB hT hC hi (Nat.zero_le _) fun h' k he ht => ?_
  have na : H (hp.objs.size + 1) = none := I.hok.fresh (Nat.le_succ _)
  have J : Inv X pins σ (upd H (hp.objs.size + 1) (exo (hp.objs.size + 1) C none)) ⟨h', g, dr, tk, os⟩ := I.laid (t' := tk) k (Nat.le_succ _) (exo_ok he)
  refine ⟨.ref (hp.objs.size + 1), _, J, rfl, h _ _ na (fun b o q => ?_) ⟨none, upd_same, fun y z => nomatch z⟩⟩
  rw [upd_ne (ne_of_none q na)]
  exact q
/-- isinstance(e, c), e a tracked exception -/
def rIsX (K : PySem.W.Frag) : List V → Hp → VK → Prop := fun xs H Q => ∃ (a C : Addr) (c : V) (cv : Value) (b : Bool), xs = [.ref a, c] ∧ ExIs H a C ∧ ECls K C ∧ (∀ u, RelV c u → u = cv) ∧ PySem.W.kitOne K (.ref C) cv = some b ∧ Q (.bl b) H
theorem call_isX : CallR X (.builtin "isinstance") (rIsX X.K) := by
  intro pins s σ H xs us Q I r h
  obtain ⟨a, C, c, cv, b, rfl, ⟨d, ha, hdd⟩, T, hcv, e, q⟩ := h
  cases r with
  | cons rx rr =>
    cases rr with
    | cons rt rr =>
      cases rr
      cases rx
      have ec := hcv _ rt
      subst ec
      obtain ⟨t1, hget⟩ := exo_at I.hok ha
      have fin : ∀ tk, EP X pins σ Q (.bool b) { s with toks := tk } := fun tk => ⟨.bl b, H, I.kept (t' := tk) fun _ _ z => z, rfl, q⟩
      cases d with
      | none => exact PySem.W.kia_one (PySem.W.kitx_exc (od := none) T.isC T.ga T.gg T.exC T.cl T.cg T.tk T.ob) I.kIn ⟨hget, rfl, rfl, trivial⟩ e (fun z => nomatch z) fin
      | some d =>
        obtain ⟨fs, hfs⟩ := hdd d rfl
        obtain ⟨mA, ⟨oD, es, ep, hoD, hx⟩, rel⟩ := exd_at I.hok hfs
        exact PySem.W.kia_one (PySem.W.kitx_exc (od := some oD) T.isC T.ga T.gg T.exC T.cl T.cg T.tk T.ob) I.kIn ⟨hget, rfl, rfl, hoD⟩ e (fun z => nomatch z) fin
/-- e.f, e a tracked exception with this field -/
def tExF (K : PySem.W.Frag) (f : Str) (te : TE) : TE := fun σ H Q => te σ H fun x H1 => ∃ (a C : Addr) (v : V), x = .ref a ∧ ExAt H1 a C f v ∧ ECls K C ∧ PySem.W.findIn K (.ref C) f = some none ∧ Q v H1
theorem pe_exF (he : PE X e te) (hb : attributeBase e f X.env (eval e X.env) = eval e X.env := by rfl) : PE X (.Attribute e f pos) (tExF X.K f te) := by
  refine ⟨fun pins s σ H Q I h => ?_⟩
  refine attr_of hb (thn (he.run pins s σ H _ I h) fun u s1 hh => ?_)
  obtain ⟨x, H1, I1, rx, a, C, v, ex, ⟨d, ha, hd⟩, T, hno, q⟩ := hh
  subst ex
  obtain rfl : u = Value.ref a := rx
  obtain ⟨t1, hget⟩ := exo_at I1.hok ha
  obtain ⟨mA, hns, hr⟩ := exd_at I1.hok hd
  obtain ⟨od, ho, hl⟩ := lookIn_ns hns
  have l : List.lookup f [(f, v)] = some v := by simp [List.lookup]
  obtain ⟨u, hu, ru⟩ := RelO.some_of (v := v) (o := mA f) (by rw [← l]; exact hr f)
  exact HandSPX.exc_get I1.kIn (od := some od) ⟨hget, rfl, rfl, ho⟩ T.ga T.gg T.exC (PySem.W.findObj_own T.hd hno rfl (by rw [hl, hu])) (handed_of ru) ⟨v, H1, I1.tok _, ru, q⟩
end
end L2
set_option Elab.async false
set_option linter.all false
set_option maxRecDepth 100000
set_option maxHeartbeats 4000000
namespace QL
open PySem L2
open PySem.W (Frag)
/-! ### data without the heap -/
inductive D where
  | non | bl (b : Bool) | int (i : Int) | str (z : Str)
  | tup (xs : List D) | lst (xs : List D)
  | dk (ks : List Key) (xs : List D) | dt (ks : List (List Key)) (xs : List D)
  | ins (c : Nat) (a : Addr) (ns : List Str) (xs : List D)
  | rf (a : Addr)
  | scr (ns : List Int)
  | exc (a : Addr) (c : Nat) (d : Option Addr) (fs : List Str) (xs : List D)
/-- what is still being made, at an address of its own -/
inductive M where
  | lst (xs : List D) | dk (ks : List Key) (xs : List D) | dt (ks : List (List Key)) (xs : List D)
  | obj (c : Nat) (ns : List Str) (xs : List D)
  | src (n : Nat)
inductive S where
  | d (x : D) | m (a : Addr) (x : M)
def M.toD (a : Addr) : M → Option D
  | .lst xs => some (.lst xs)
  | .dk ks xs => some (.dk ks xs)
  | .dt ks xs => some (.dt ks xs)
  | .obj c ns xs => some (.ins c a ns xs)
  | .src _ => none
structure Wd where
  K : Frag
  CA : Nat → Addr
  T : List (Addr × Str)
/-- a source of picks: its digits, its mixed number, how many picks there were (at most n) -/
def SrcAt (n : Nat) (H : Hp) (p : Addr) : Prop := ∃ a b c : Int, H p = some (.lst [.int a, .int b, .int c]) ∧ 0 ≤ a ∧ 0 ≤ b ∧ b < 2147483423 ∧ 0 ≤ c ∧ c ≤ n
def LsAt (H : Hp) (a : Addr) (vs : List V) : Prop := H a = some (.lst vs)
def ScAt (K : Frag) (H : Hp) (O : List Addr) (a : Addr) (vs : List V) : Prop := (H a = some (.lst vs) ∧ a ∉ O) ∨ (∃ o, H a = some (.frz o (.lst vs)) ∧ a ∉ O) ∨ ∀ H' : Hp, SqL K H' a vs
def TpAt (K : Frag) (H : Hp) (O : List Addr) (a : Addr) (vs : List V) : Prop := (H a = some (.tup vs) ∧ a ∉ O) ∨ (vs = [] ∧ ∀ H' : Hp, SqT K H' a [])
def okS (z : Str) : Prop := z.length ≤ sizeLine ∧ PyData.strOk z = true
instance (z : Str) : Decidable (okS z) := inferInstanceAs (Decidable (_ ∧ _))
mutual
inductive At (W : Wd) (H : Hp) (O : List Addr) : V → D → Prop
  | non : At W H O .non .non
  | bl (b : Bool) : At W H O (.bl b) (.bl b)
  | int (i : Int) : At W H O (.int i) (.int i)
  | str (z : Str) : okS z → At W H O (.str z) (.str z)
  | tup {a : Addr} {vs : List V} {ds : List D} : TpAt W.K H O a vs → AtL W H O vs ds → At W H O (.ref a) (.tup ds)
  | lst {a : Addr} {vs : List V} {ds : List D} : LsAt H a vs → a ∉ O → AtL W H O vs ds → At W H O (.ref a) (.lst ds)
  | dk {a : Addr} {ks : List Key} {vs : List V} {ds : List D} : H a = some (.dK (ks.zip vs)) → ks.length = vs.length → a ∉ O → AtL W H O vs ds → At W H O (.ref a) (.dk ks ds)
  | dt {a : Addr} {ks : List (List Key)} {vs : List V} {ds : List D} : H a = some (.dT (ks.zip vs)) → ks.length = vs.length → a ∉ O → AtL W H O vs ds → At W H O (.ref a) (.dt ks ds)
  | ins {a dx : Addr} {c : Nat} {ns : List Str} {vs : List V} {ds : List D} : H a = some (.ins (W.CA c) dx (ns.zip vs)) → ns.length = vs.length → a ∉ O → AtL W H O vs ds → At W H O (.ref a) (.ins c a ns ds)
  | rf (a : Addr) : At W H O (.ref a) (.rf a)
  | scr {a : Addr} {ns : List Int} : ScAt W.K H O a (ns.map V.int) → At W H O (.ref a) (.scr ns)
  | exc {a : Addr} {c : Nat} {d : Option Addr} {fs : List Str} {vs : List V} {ds : List D} : (∀ b, d = some b → H b = some (.xd (fs.zip vs)) ∧ b ∉ O) → fs.length = vs.length → AtL W H O vs ds → At W H O (.ref a) (.exc a c d fs ds)
inductive AtL (W : Wd) (H : Hp) (O : List Addr) : List V → List D → Prop
  | nil : AtL W H O [] []
  | cons {v : V} {d : D} {vs : List V} {ds : List D} : At W H O v d → AtL W H O vs ds → AtL W H O (v :: vs) (d :: ds)
end
section
variable {W : Wd} {H H' : Hp} {O O' : List Addr}
theorem AtL.length : ∀ {vs : List V} {ds : List D}, AtL W H O vs ds → vs.length = ds.length
  | _, _, .nil => rfl
  | _, _, .cons _ t => by rw [List.length_cons, List.length_cons, t.length]
theorem AtL.app : ∀ {vs : List V} {ds : List D} {vs' : List V} {ds' : List D}, AtL W H O vs ds → AtL W H O vs' ds' → AtL W H O (vs ++ vs') (ds ++ ds')
  | _, _, _, _, .nil, h => h
  | _, _, _, _, .cons a t, h => .cons a (t.app h)
theorem AtL.get : ∀ {vs : List V} {ds : List D} {i : Nat} {d : D}, AtL W H O vs ds → ds[i]? = some d → ∃ v, vs[i]? = some v ∧ At W H O v d
  | _, _, 0, _, .cons a t, e => ⟨_, rfl, by cases e; exact a⟩
  | _, _, i + 1, d, .cons a t, e => AtL.get (i := i) t (by simpa using e)
theorem AtL.getV : ∀ {vs : List V} {ds : List D} {i : Nat} {v : V}, AtL W H O vs ds → vs[i]? = some v → ∃ d, ds[i]? = some d ∧ At W H O v d
  | _, _, 0, _, .cons a t, e => ⟨_, rfl, by cases e; exact a⟩
  | _, _, i + 1, d, .cons a t, e => AtL.getV (i := i) t (by simpa using e)
theorem AtL.take : ∀ {vs : List V} {ds : List D} (n : Nat), AtL W H O vs ds → AtL W H O (vs.take n) (ds.take n)
  | _, _, 0, _ => .nil
  | _, _, _ + 1, .nil => .nil
  | _, _, n + 1, .cons a t => .cons a (t.take n)
theorem AtL.drop : ∀ {vs : List V} {ds : List D} (n : Nat), AtL W H O vs ds → AtL W H O (vs.drop n) (ds.drop n)
  | _, _, 0, h => h
  | _, _, _ + 1, .nil => .nil
  | _, _, n + 1, .cons _ t => t.drop n
theorem AtL.set {v : V} {d : D} (h : At W H O v d) : ∀ {vs : List V} {ds : List D} (n : Nat), AtL W H O vs ds → AtL W H O (vs.set n v) (ds.set n d)
  | _, _, _, .nil => .nil
  | _, _, 0, .cons _ t => .cons h t
  | _, _, n + 1, .cons a t => .cons a (AtL.set h n t)
theorem AtL.erase : ∀ {vs : List V} {ds : List D} (n : Nat), AtL W H O vs ds → AtL W H O (vs.eraseIdx n) (ds.eraseIdx n)
  | _, _, _, .nil => .nil
  | _, _, 0, .cons _ t => t
  | _, _, n + 1, .cons a t => .cons a (t.erase n)
/-- what is not owned stays, what comes to be owned was none -/
structure Step (H H' : Hp) (O O' : List Addr) : Prop where
  st : ∀ b o, b ∉ O → H b = some o → H' b = some o
  ow : ∀ b, b ∈ O' → b ∈ O ∨ H b = none
theorem Step.nin (e : Step H H' O O') {b : Addr} {o : HO} (n : b ∉ O) (h : H b = some o) : b ∉ O' := fun z => by
  rcases e.ow b z with q | q
  · exact n q
  · rw [h] at q; cases q
theorem TpAt.step {K : Frag} {a : Addr} {vs : List V} (e : Step H H' O O') (h : TpAt K H O a vs) : TpAt K H' O' a vs := h.imp (fun h => ⟨e.st _ _ h.2 h.1, e.nin h.2 h.1⟩) id
theorem LsAt.step {a : Addr} {vs : List V} (e : Step H H' O O') (n : a ∉ O) (h : LsAt H a vs) : LsAt H' a vs ∧ a ∉ O' := ⟨e.st _ _ n h, e.nin n h⟩
theorem ScAt.step {K : Frag} {a : Addr} {vs : List V} (e : Step H H' O O') (h : ScAt K H O a vs) : ScAt K H' O' a vs := by
  rcases h with ⟨h, n⟩ | ⟨o, h, n⟩ | h
  · exact .inl ⟨e.st _ _ n h, e.nin n h⟩
  · exact .inr (.inl ⟨o, e.st _ _ n h, e.nin n h⟩)
  · exact .inr (.inr h)
mutual
theorem At.step (e : Step H H' O O') : ∀ {v : V} {d : D}, At W H O v d → At W H' O' v d
  | _, _, .non => .non
  | _, _, .bl b => .bl b
  | _, _, .int i => .int i
  | _, _, .str z h => .str z h
  | _, _, .tup h t => .tup (h.step e) (AtL.step e t)
  | _, _, .lst h n t => .lst (h.step e n).1 (h.step e n).2 (AtL.step e t)
  | _, _, .dk h l n t => .dk (e.st _ _ n h) l (e.nin n h) (AtL.step e t)
  | _, _, .dt h l n t => .dt (e.st _ _ n h) l (e.nin n h) (AtL.step e t)
  | _, _, .ins h l n t => .ins (e.st _ _ n h) l (e.nin n h) (AtL.step e t)
  | _, _, .rf a => .rf a
  | _, _, .scr h => .scr (h.step e)
  | _, _, .exc h l t => .exc (fun b hb => ⟨e.st _ _ (h b hb).2 (h b hb).1, e.nin (h b hb).2 (h b hb).1⟩) l (AtL.step e t)
theorem AtL.step (e : Step H H' O O') : ∀ {vs : List V} {ds : List D}, AtL W H O vs ds → AtL W H' O' vs ds
  | _, _, .nil => .nil
  | _, _, .cons a t => .cons (At.step e a) (AtL.step e t)
end
def MAt (W : Wd) (H : Hp) (O : List Addr) (a : Addr) : M → Prop
  | .lst xs => ∃ vs, H a = some (.lst vs) ∧ AtL W H O vs xs
  | .dk ks xs => ∃ vs, H a = some (.dK (ks.zip vs)) ∧ ks.length = vs.length ∧ AtL W H O vs xs
  | .dt ks xs => ∃ vs, H a = some (.dT (ks.zip vs)) ∧ ks.length = vs.length ∧ AtL W H O vs xs
  | .obj c ns xs => ∃ dx vs, H a = some (.ins (W.CA c) dx (ns.zip vs)) ∧ ns.length = vs.length ∧ AtL W H O vs xs
  | .src n => SrcAt n H a
def SAt (W : Wd) (H : Hp) (O : List Addr) (v : V) : S → Prop
  | .d x => At W H O v x
  | .m a x => v = .ref a ∧ MAt W H O a x
theorem MAt.step {a : Addr} {m : M} (e : Step H H' O O') (k : ∀ o, H a = some o → H' a = some o) (h : MAt W H O a m) : MAt W H' O' a m := by
  cases m with
  | lst xs => obtain ⟨vs, h1, h2⟩ := h; exact ⟨vs, k _ h1, h2.step e⟩
  | dk ks xs => obtain ⟨vs, h1, h0, h2⟩ := h; exact ⟨vs, k _ h1, h0, h2.step e⟩
  | dt ks xs => obtain ⟨vs, h1, h0, h2⟩ := h; exact ⟨vs, k _ h1, h0, h2.step e⟩
  | obj c ns xs => obtain ⟨dx, vs, h1, h0, h2⟩ := h; exact ⟨dx, vs, k _ h1, h0, h2.step e⟩
  | src n => obtain ⟨x, y, z, h1, h2⟩ := h; exact ⟨x, y, z, k _ h1, h2⟩
theorem MAt.there {a : Addr} {m : M} (h : MAt W H O a m) : ∃ o, H a = some o ∧ Mut (some o) := by
  cases m with
  | lst xs => obtain ⟨vs, h1, _⟩ := h; exact ⟨_, h1, trivial⟩
  | dk ks xs => obtain ⟨vs, h1, _⟩ := h; exact ⟨_, h1, trivial⟩
  | dt ks xs => obtain ⟨vs, h1, _⟩ := h; exact ⟨_, h1, trivial⟩
  | obj c ns xs => obtain ⟨dx, vs, h1, _⟩ := h; exact ⟨_, h1, trivial⟩
  | src n => obtain ⟨x, y, z, h1, _⟩ := h; exact ⟨_, h1, trivial⟩
end
/-! ### all that is held -/
abbrev It := V × S
def own1 : It → Option Addr
  | (_, .m a _) => some a
  | (_, .d _) => none
def owns (I : List It) : List Addr := I.filterMap own1
structure Hold (W : Wd) (H : Hp) (I : List It) : Prop where
  nd : (owns I).Nodup
  at_ : ∀ p ∈ I, SAt W H (owns I) p.1 p.2
  tb : LamX.Tabs W.T H
  nt : ∀ b, b ∈ owns I → ∀ o, H b = some o → (∀ c q, o ≠ LamX.CodeO c q)
theorem owns_cons (p : It) (I : List It) : owns (p :: I) = (own1 p).toList ++ owns I := by
  unfold owns
  rw [List.filterMap_cons]
  cases own1 p <;> rfl
theorem owns_app (I J : List It) : owns (I ++ J) = owns I ++ owns J := List.filterMap_append
theorem owns_perm {I J : List It} (p : I.Perm J) : (owns I).Perm (owns J) := p.filterMap _
theorem step_perm {H : Hp} {O O' : List Addr} (h : ∀ b, b ∈ O' → b ∈ O) : Step H H O O' := ⟨fun _ _ _ q => q, fun b hb => .inl (h b hb)⟩
theorem SAt.step {W : Wd} {H H' : Hp} {O O' : List Addr} {v : V} {s : S} (e : Step H H' O O') (k : ∀ a x, s = .m a x → ∀ o, H a = some o → H' a = some o) (h : SAt W H O v s) : SAt W H' O' v s := by
  cases s with
  | d x => exact At.step e h
  | m a x => exact ⟨h.1, h.2.step e (k a x rfl)⟩
theorem Hold.perm {W : Wd} {H : Hp} {I J : List It} (p : I.Perm J) (h : Hold W H I) : Hold W H J :=
  ⟨(owns_perm p).nodup_iff.mp h.nd, fun q hq => (h.at_ q (p.mem_iff.mpr hq)).step (step_perm fun b hb => (owns_perm p).mem_iff.mpr hb) (fun _ _ _ _ z => z), h.tb, fun b hb => h.nt b ((owns_perm p).mem_iff.mpr hb)⟩
theorem Hold.tail {W : Wd} {H : Hp} {I : List It} {p : It} (h : Hold W H (p :: I)) : Hold W H I := by
  have e := owns_cons p I
  refine ⟨?_, fun q hq => (h.at_ q (List.mem_cons_of_mem _ hq)).step (step_perm fun b hb => ?_) (fun _ _ _ _ z => z), h.tb, fun b hb => h.nt b ?_⟩
  · have := h.nd
    rw [e] at this
    exact (List.nodup_append.mp this).2.1
  · rw [e]; exact List.mem_append_right _ hb
  · rw [e]; exact List.mem_append_right _ hb
theorem Hold.head {W : Wd} {H : Hp} {I : List It} {p : It} (h : Hold W H (p :: I)) : SAt W H (owns (p :: I)) p.1 p.2 := h.at_ p List.mem_cons_self
theorem Hold.right {W : Wd} {H : Hp} : ∀ {I J : List It}, Hold W H (I ++ J) → Hold W H J
  | [], _, h => h
  | _ :: I, J, h => Hold.right (I := I) h.tail
theorem Hold.left {W : Wd} {H : Hp} {I J : List It} (h : Hold W H (I ++ J)) : Hold W H I := (h.perm List.perm_append_comm).right
/-- a datum is added -/
theorem Hold.data {W : Wd} {H : Hp} {I : List It} {v : V} {x : D} (h : Hold W H I) (a : At W H (owns I) v x) : Hold W H ((v, .d x) :: I) := by
  have e : owns ((v, S.d x) :: I) = owns I := rfl
  refine ⟨by rw [e]; exact h.nd, fun q hq => ?_, h.tb, by rw [e]; exact h.nt⟩
  rw [e]
  rcases List.mem_cons.mp hq with rfl | hq
  · exact a
  · exact h.at_ q hq
theorem Hold.own_there {W : Wd} {H : Hp} {I : List It} (h : Hold W H I) {b : Addr} (hb : b ∈ owns I) : ∃ o, H b = some o ∧ Mut (some o) := by
  obtain ⟨p, hp, e⟩ := List.mem_filterMap.mp hb
  have z := h.at_ p hp
  obtain ⟨v, s⟩ := p
  cases s with
  | d x => cases e
  | m a x => cases e; exact z.2.there
theorem Hold.fresh {W : Wd} {H : Hp} {I : List It} (h : Hold W H I) {p : Addr} (n : H p = none) : p ∉ owns I := fun z => by
  obtain ⟨o, e, _⟩ := h.own_there z
  rw [n] at e; cases e
theorem tabs_step {W : Wd} {H H' : Hp} {I : List It} (h : Hold W H I) (k : ∀ b o, b ∉ owns I → H b = some o → H' b = some o) : LamX.Tabs W.T H' := fun p hp => by
  obtain ⟨ps, h1, h2, h3⟩ := h.tb p hp
  have nP : ∀ b q, H b = some (.tbl q) → b ∉ owns I := fun b q e z => by
    obtain ⟨o, e1, e2⟩ := h.own_there z
    rw [e] at e1; cases e1; exact e2
  refine ⟨ps, k _ _ (nP _ _ h1) h1, h2, fun pos cv hc => ?_⟩
  obtain ⟨c, e1, e2⟩ := h3 pos cv hc
  exact ⟨c, e1, k _ _ (fun z => h.nt c z _ e2 _ _ rfl) e2⟩
/-- the heap grows: what was there stays -/
theorem Hold.grow {W : Wd} {H H' : Hp} {I : List It} (h : Hold W H I) (k : Same H H') : Hold W H' I := by
  refine ⟨h.nd, fun q hq => (h.at_ q hq).step ⟨fun b o _ e => k b o e, fun b hb => .inl hb⟩ (fun a x _ o e => k _ _ e), tabs_step h fun b o _ e => k b o e, fun b hb o e => ?_⟩
  obtain ⟨o', e1, e2⟩ := h.own_there hb
  have := k _ _ e1
  rw [e] at this; cases this
  exact h.nt b hb o e1
/-- a new thing that is owned -/
theorem Hold.own {W : Wd} {H H' : Hp} {I : List It} {p : Addr} {m : M} (h : Hold W H I) (n : H p = none) (k : Same H H') (a : MAt W H' (p :: owns I) p m) (nc : ∀ o, H' p = some o → ∀ c q, o ≠ LamX.CodeO c q) : Hold W H' ((.ref p, .m p m) :: I) := by
  have e : owns ((V.ref p, S.m p m) :: I) = p :: owns I := rfl
  refine ⟨?_, fun q hq => ?_, tabs_step h fun b o _ e => k b o e, fun b hb o z => ?_⟩
  · rw [e]; exact List.nodup_cons.mpr ⟨h.fresh n, h.nd⟩
  · rw [e]
    rcases List.mem_cons.mp hq with rfl | hq
    · exact ⟨rfl, a⟩
    · exact (h.at_ q hq).step ⟨fun b o _ e => k b o e, fun b hb => (List.mem_cons.mp hb).elim (fun z => .inr (z ▸ n)) .inl⟩ (fun _ _ _ o e => k _ _ e)
  · rw [e] at hb
    rcases List.mem_cons.mp hb with rfl | hb
    · exact nc o z
    · exact (h.grow k).nt b hb o z
/-- what is owned is changed -/
theorem Hold.write {W : Wd} {H : Hp} {I : List It} {v : V} {a : Addr} {m m' : M} {o : HO} (h : Hold W H ((v, .m a m) :: I)) (nc : ∀ c q, o ≠ LamX.CodeO c q) (n : MAt W (upd H a o) (a :: owns I) a m') : Hold W (upd H a o) ((v, .m a m') :: I) := by
  have e : ∀ m, owns ((v, S.m a m) :: I) = a :: owns I := fun _ => rfl
  have nd := h.nd
  rw [e] at nd
  have nA := (List.nodup_cons.mp nd).1
  have k : ∀ b o', b ∉ a :: owns I → H b = some o' → upd H a o b = some o' := fun b o' hb q => by
    rw [upd_ne (show b ≠ a from fun z => hb (by rw [z]; exact List.mem_cons_self))]; exact q
  refine ⟨by rw [e]; exact nd, fun q hq => ?_, tabs_step h (by rw [e]; exact k), fun b hb o' z => ?_⟩
  · rw [e]
    rcases List.mem_cons.mp hq with rfl | hq
    · exact ⟨h.head.1, n⟩
    · have z := h.at_ q (List.mem_cons_of_mem _ hq)
      rw [e] at z
      refine z.step ⟨k, fun b hb => .inl hb⟩ fun b x eq o' q' => ?_
      have : b ∈ owns I := List.mem_filterMap.mpr ⟨q, hq, by obtain ⟨v', s'⟩ := q; cases eq; rfl⟩
      rw [upd_ne (show b ≠ a from fun z => nA (by rw [← z]; exact this))]; exact q'
  · rw [e] at hb
    by_cases hba : b = a
    · subst hba; rw [upd_same] at z; cases z; exact nc
    · rw [upd_ne hba] at z
      exact h.nt b (by rw [e]; exact hb) o' z
/-- what is owned becomes a datum -/
theorem M.data {W : Wd} {H : Hp} {O O' : List Addr} {a : Addr} {m : M} {x : D} (h : MAt W H O a m) (e : m.toD a = some x) (n : a ∉ O') (s : ∀ b ∈ O', b ∈ O) : At W H O' (.ref a) x := by
  have st : Step H H O O' := step_perm s
  cases m with
  | lst xs => cases e; obtain ⟨vs, h1, h2⟩ := h; exact .lst h1 n (h2.step st)
  | dk ks xs => cases e; obtain ⟨vs, h1, h0, h2⟩ := h; exact .dk h1 h0 n (h2.step st)
  | dt ks xs => cases e; obtain ⟨vs, h1, h0, h2⟩ := h; exact .dt h1 h0 n (h2.step st)
  | obj c ns xs => cases e; obtain ⟨dx, vs, h1, h0, h2⟩ := h; exact .ins h1 h0 n (h2.step st)
  | src n => cases e
theorem Hold.freeze {W : Wd} {H : Hp} {I : List It} {v : V} {a : Addr} {m : M} {x : D} (h : Hold W H ((v, .m a m) :: I)) (e : m.toD a = some x) : Hold W H ((v, .d x) :: I) := by
  have nd : (a :: owns I).Nodup := h.nd
  refine h.tail.data ?_
  have z := h.head
  rw [show v = V.ref a from z.1]
  exact M.data z.2 e (List.nodup_cons.mp nd).1 fun b hb => List.mem_cons_of_mem _ hb
end QL
set_option Elab.async false
set_option linter.all false
set_option maxRecDepth 100000
set_option maxHeartbeats 4000000
namespace QL
open PySem L2
open PySem.W (Frag)
abbrev Env := List (Option S)
def slots : L2.St → Env → List It
  | some v :: σ, some s :: ρ => (v, s) :: slots σ ρ
  | _ :: σ, _ :: ρ => slots σ ρ
  | _, _ => []
theorem slots_skip (x : Option V) (σ : L2.St) (ρ : Env) : slots (x :: σ) (none :: ρ) = slots σ ρ := by
  cases x <;> rfl
theorem slots_take : ∀ {σ : L2.St} {ρ : Env} {i : Nat} {v : V} {s : S}, σ[i]? = some (some v) → ρ[i]? = some (some s) → (slots σ ρ).Perm ((v, s) :: slots σ (ρ.set i none))
  | x :: σ, y :: ρ, 0, v, s, h1, h2 => by
    simp at h1 h2; subst h1; subst h2
    show ((v, s) :: slots σ ρ).Perm ((v, s) :: slots (some v :: σ) (none :: ρ))
    rw [slots_skip]
  | x :: σ, y :: ρ, i + 1, v, s, h1, h2 => by
    have ih := slots_take (σ := σ) (ρ := ρ) (i := i) (v := v) (s := s) (by simpa using h1) (by simpa using h2)
    rw [List.set_cons_succ]
    cases x with
    | none => exact ih
    | some x =>
      cases y with
      | none => exact ih
      | some y =>
        show ((x, y) :: slots σ ρ).Perm ((v, s) :: (x, y) :: slots σ (ρ.set i none))
        exact (ih.cons _).trans (List.Perm.swap _ _ _)
  | [], _, _, _, _, h, _ => by simp at h
  | _ :: _, [], _, _, _, _, h => by simp at h
theorem slots_put : ∀ {σ : L2.St} {ρ : Env} {i : Nat} {v : V} {s : S}, i < σ.length → σ.length = ρ.length → (slots (σ.set i (some v)) (ρ.set i (some s))).Perm ((v, s) :: slots σ (ρ.set i none))
  | x :: σ, y :: ρ, 0, v, s, _, _ => by
    show ((v, s) :: slots σ ρ).Perm ((v, s) :: slots (x :: σ) (none :: ρ))
    rw [slots_skip]
  | x :: σ, y :: ρ, i + 1, v, s, h1, h2 => by
    have ih := slots_put (σ := σ) (ρ := ρ) (i := i) (v := v) (s := s) (by simpa using h1) (by simpa using h2)
    rw [List.set_cons_succ, List.set_cons_succ, List.set_cons_succ]
    cases x with
    | none => exact ih
    | some x =>
      cases y with
      | none => exact ih
      | some y =>
        show ((x, y) :: slots (σ.set i (some v)) (ρ.set i (some s))).Perm ((v, s) :: (x, y) :: slots σ (ρ.set i none))
        exact (ih.cons _).trans (List.Perm.swap _ _ _)
  | [], _, _, _, _, h, _ => by simp at h
  | _ :: _, [], _, _, _, _, h => by simp at h
theorem slots_give : ∀ {σ : L2.St} {ρ : Env} {i : Nat} {v : V} {s : S}, σ[i]? = some (some v) → σ.length = ρ.length → (slots σ (ρ.set i (some s))).Perm ((v, s) :: slots σ (ρ.set i none)) := fun {σ ρ i v s} h1 h2 => by
  have hi : i < σ.length := (List.getElem?_eq_some_iff.mp h1).1
  have z := slots_put (σ := σ) (ρ := ρ) (i := i) (v := v) (s := s) hi h2
  have e : σ.set i (some v) = σ := by
    refine List.ext_getElem? fun j => ?_
    by_cases hj : j = i
    · subst hj; rw [List.getElem?_set_self hi, h1]
    · rw [List.getElem?_set_ne (Ne.symm hj)]
  rwa [e] at z
/-- the slots σ over the heap H are read as ρ, beside what is held besides -/
structure Rep (W : Wd) (σ : L2.St) (H : Hp) (ρ : Env) (Γ : List It) : Prop where
  len : σ.length = ρ.length
  hs : ∀ (i : Nat) (s : S), ρ[i]? = some (some s) → ∃ v : V, σ[i]? = some (some v)
  hold : Hold W H (slots σ ρ ++ Γ)
section
variable {W : Wd} {σ : L2.St} {H H' : Hp} {ρ : Env} {Γ Γ' : List It} {i : Nat} {v : V} {s : S} {x : D} {a : Addr} {m : M}
theorem Rep.mapH (r : Rep W σ H ρ Γ) (h : Hold W H (slots σ ρ ++ Γ) → Hold W H' (slots σ ρ ++ Γ')) : Rep W σ H' ρ Γ' := ⟨r.len, r.hs, h r.hold⟩
theorem perm_mid (I Γ : List It) (p : It) : (I ++ p :: Γ).Perm (p :: (I ++ Γ)) := List.perm_middle
theorem Rep.perm (r : Rep W σ H ρ Γ) (p : Γ.Perm Γ') : Rep W σ H ρ Γ' := r.mapH fun h => h.perm (p.append_left _)
theorem Rep.drop {p : It} (r : Rep W σ H ρ (p :: Γ)) : Rep W σ H ρ Γ := r.mapH fun h => (h.perm (perm_mid _ _ _)).tail
theorem Rep.drop2 {p q : It} (r : Rep W σ H ρ (p :: q :: Γ)) : Rep W σ H ρ (p :: Γ) := (r.perm (List.Perm.swap _ _ _)).drop
theorem Rep.grow (r : Rep W σ H ρ Γ) (k : Same H H') : Rep W σ H' ρ Γ := r.mapH fun h => h.grow k
theorem Rep.head {p : It} (r : Rep W σ H ρ (p :: Γ)) : SAt W H (owns (p :: (slots σ ρ ++ Γ))) p.1 p.2 := (r.hold.perm (perm_mid _ _ _)).head
theorem Rep.low (r : Rep W σ H ρ Γ) : Hold W H Γ := r.hold.right
theorem Rep.data (r : Rep W σ H ρ Γ) (h : At W H (owns (slots σ ρ ++ Γ)) v x) : Rep W σ H ρ ((v, .d x) :: Γ) := r.mapH fun z => (z.data h).perm (perm_mid _ _ _).symm
theorem Rep.own (r : Rep W σ H ρ Γ) (n : H a = none) (k : Same H H') (h : MAt W H' (a :: owns (slots σ ρ ++ Γ)) a m) (nc : ∀ o, H' a = some o → ∀ c q, o ≠ LamX.CodeO c q) : Rep W σ H' ρ ((.ref a, .m a m) :: Γ) :=
  r.mapH fun z => (z.own n k h nc).perm (perm_mid _ _ _).symm
theorem Rep.write {m' : M} {o : HO} (r : Rep W σ H ρ ((v, .m a m) :: Γ)) (nc : ∀ c q, o ≠ LamX.CodeO c q) (n : MAt W (upd H a o) (a :: owns (slots σ ρ ++ Γ)) a m') : Rep W σ (upd H a o) ρ ((v, .m a m') :: Γ) :=
  r.mapH fun z => ((z.perm (perm_mid _ _ _)).write nc n).perm (perm_mid _ _ _).symm
theorem Rep.freeze (r : Rep W σ H ρ ((v, .m a m) :: Γ)) (e : m.toD a = some x) : Rep W σ H ρ ((v, .d x) :: Γ) := r.mapH fun z => ((z.perm (perm_mid _ _ _)).freeze e).perm (perm_mid _ _ _).symm
/-- a slot's thing is taken out -/
theorem Rep.lend (r : Rep W σ H ρ Γ) (e : ρ[i]? = some (some s)) : ∃ v, σ[i]? = some (some v) ∧ Rep W σ H (ρ.set i none) ((v, s) :: Γ) := by
  obtain ⟨v, hv⟩ := r.hs i s e
  refine ⟨v, hv, by rw [List.length_set]; exact r.len, fun j t h => ?_, ?_⟩
  · by_cases hj : i = j
    · subst hj
      rw [List.getElem?_set_self (by have := (List.getElem?_eq_some_iff.mp e).1; exact this)] at h
      cases h
    · rw [List.getElem?_set_ne hj] at h
      exact r.hs j t h
  · refine r.hold.perm ?_
    exact ((slots_take hv e).append_right Γ).trans (perm_mid _ _ _).symm
/-- .. and laid back -/
theorem Rep.give (r : Rep W σ H ρ ((v, s) :: Γ)) (hv : σ[i]? = some (some v)) (hn : ρ[i]? = some none) : Rep W σ H (ρ.set i (some s)) Γ := by
  have hi : i < ρ.length := (List.getElem?_eq_some_iff.mp hn).1
  refine ⟨by rw [List.length_set]; exact r.len, fun j t h => ?_, ?_⟩
  · by_cases hj : i = j
    · subst hj; exact ⟨v, hv⟩
    · rw [List.getElem?_set_ne hj] at h
      exact r.hs j t h
  · refine r.hold.perm ?_
    have e : ρ.set i none = ρ := by
      refine List.ext_getElem? fun j => ?_
      by_cases hj : i = j
      · subst hj; rw [List.getElem?_set_self hi, hn]
      · rw [List.getElem?_set_ne hj]
    have z := slots_give (s := s) hv r.len
    rw [e] at z
    exact (perm_mid _ _ _).trans (z.append_right Γ).symm
theorem Rep.forget (r : Rep W σ H ρ Γ) (i : Nat) : Rep W σ H (ρ.set i none) Γ := by
  cases e : ρ[i]? with
  | none =>
    rw [List.set_eq_of_length_le (by simpa using e)]; exact r
  | some o =>
    cases o with
    | none =>
      have hi : i < ρ.length := (List.getElem?_eq_some_iff.mp e).1
      have e2 : ρ.set i none = ρ := by
        refine List.ext_getElem? fun j => ?_
        by_cases hj : i = j
        · subst hj; rw [List.getElem?_set_self hi, e]
        · rw [List.getElem?_set_ne hj]
      rw [e2]; exact r
    | some s =>
      obtain ⟨v, _, r'⟩ := r.lend e
      exact r'.drop
/-- a name is stored -/
theorem Rep.set (r : Rep W σ H ρ ((v, s) :: Γ)) (hi : i < ρ.length) : Rep W (σ.set i (some v)) H (ρ.set i (some s)) Γ := by
  have r0 := r.forget i
  refine ⟨by rw [List.length_set, List.length_set]; exact r.len, fun j t h => ?_, ?_⟩
  · by_cases hj : i = j
    · subst hj
      exact ⟨v, List.getElem?_set_self (by rw [r.len]; exact hi)⟩
    · rw [List.getElem?_set_ne hj] at h
      obtain ⟨v', h'⟩ := r.hs j t h
      exact ⟨v', by rw [List.getElem?_set_ne hj]; exact h'⟩
  · refine r0.hold.perm ?_
    exact (perm_mid _ _ _).trans ((slots_put (by rw [r.len]; exact hi) r.len).append_right Γ).symm
/-- a datum in a slot is read -/
theorem Rep.read (r : Rep W σ H ρ Γ) (e : ρ[i]? = some (some (.d x))) : ∃ v, σ[i]? = some (some v) ∧ Rep W σ H ρ ((v, .d x) :: Γ) := by
  obtain ⟨v, hv, r'⟩ := r.lend e
  refine ⟨v, hv, r.data ?_⟩
  have z := r'.head
  refine At.step (step_perm fun b hb => ?_) z
  have p := owns_perm (((slots_take hv e).append_right Γ))
  exact p.mem_iff.mp hb
/-- what is being made is read as a datum: it is none that changes from now on -/
theorem Rep.readM (r : Rep W σ H ρ Γ) (e : ρ[i]? = some (some (.m a m))) (t : m.toD a = some x) : σ[i]? = some (some (.ref a)) ∧ Rep W σ H (ρ.set i (some (.d x))) ((.ref a, .d x) :: Γ) := by
  obtain ⟨v, hv, r'⟩ := r.lend e
  have ev : v = .ref a := r'.head.1
  subst ev
  have hi : i < ρ.length := (List.getElem?_eq_some_iff.mp e).1
  have r2 := (r'.freeze t).give hv (List.getElem?_set_self hi)
  rw [List.set_set] at r2
  refine ⟨hv, ?_⟩
  obtain ⟨v', hv', r3⟩ := r2.read (i := i) (x := x) (List.getElem?_set_self hi)
  rw [hv] at hv'; cases hv'
  exact r3
end
/-! ### readings without the heap -/
abbrev XD := Nat × D
/-- an exception has come: its class, its value -/
structure XH (W : Wd) (XF : Nat → Option Str) (H : Hp) (Γ : List It) (cls : Value) (dx : Option Addr) (x : XD) : Prop where
  hold : Hold W H Γ
  cls : cls = .ref (W.CA x.1)
  fld : ∀ f, XF x.1 = some f → ∃ d v, dx = some d ∧ H d = some (.xd [(f, v)]) ∧ d ∉ owns Γ ∧ At W H (owns Γ) v x.2
  non : XF x.1 = none → dx = none
abbrev RE := Env → (S → Env → Prop) → (XD → Prop) → Prop
abbrev RT := Env → (Bool → Env → Prop) → (XD → Prop) → Prop
abbrev RA := Env → (List S → Env → Prop) → (XD → Prop) → Prop
structure Rd where
  nx : Env → Prop
  rt : S → Env → Prop
  bk : Env → Prop := fun _ => False
  ct : Env → Prop := fun _ => False
  ex : XD → Prop
abbrev RS := Rd → Env → Prop
structure Gw where
  W : Wd
  XF : Nat → Option Str
section
variable (G : Gw) (E : XK)
/-- exceptions go out as E wishes -/
def Out (Γ : List It) (e : XD → Prop) : Prop := ∀ cls dx H x, XH G.W G.XF H Γ cls dx x → e x → E cls dx H
def SndE (t : TE) (r : RE) : Prop := ∀ σ H ρ Γ (Q : VK) R e, Rep G.W σ H ρ Γ → r ρ R e → (∀ v s ρ' H', Rep G.W σ H' ρ' ((v, s) :: Γ) → R s ρ' → Q v H') → Out G E Γ e → t σ H Q
def SndT (t : TT) (r : RT) : Prop := ∀ σ H ρ Γ Q R e, Rep G.W σ H ρ Γ → r ρ R e → (∀ b ρ' H', Rep G.W σ H' ρ' Γ → R b ρ' → Q b H') → Out G E Γ e → t σ H Q
def zipI : List V → List S → List It := List.zip
def SndA (t : TA) (r : RA) : Prop := ∀ σ H ρ Γ Q R e, Rep G.W σ H ρ Γ → r ρ R e → (∀ vs ss ρ' H', vs.length = ss.length → Rep G.W σ H' ρ' (vs.zip ss ++ Γ) → R ss ρ' → Q vs H') → Out G E Γ e → t σ H Q
structure EndsOk (Γ : List It) (D : Ends) (d : Rd) : Prop where
  nx : ∀ σ H ρ, Rep G.W σ H ρ Γ → d.nx ρ → D.nx σ H
  rt : ∀ σ H ρ v s, Rep G.W σ H ρ ((v, s) :: Γ) → d.rt s ρ → D.rt v H
  bk : ∀ σ H ρ, Rep G.W σ H ρ Γ → d.bk ρ → D.bk σ H
  ct : ∀ σ H ρ, Rep G.W σ H ρ Γ → d.ct ρ → D.ct σ H
  ex : Out G E Γ d.ex
def SndS (t : TS) (r : RS) : Prop := ∀ σ H ρ Γ D d, Rep G.W σ H ρ Γ → r d ρ → EndsOk G E Γ D d → t D σ H
structure DE (X : Cx) (e : Expr) (t : TE) (r : RE) : Prop where
  p : PE X e t
  s : SndE G E t r
structure DT (X : Cx) (e : Expr) (t : TT) (r : RT) : Prop where
  p : PT X e t
  s : SndT G E t r
structure DW (X : Cx) (e : Expr) (t : TT) (r : RT) : Prop where
  p : PW X e t
  s : SndT G E t r
structure DA (X : Cx) (es : List Expr) (t : TA) (r : RA) : Prop where
  p : PA X es t
  s : SndA G E t r
structure DS (X : Cx) (st : Stmt) (t : TS) (r : RS) : Prop where
  p : PS X st t
  s : SndS G E t r
structure DSs (X : Cx) (st : List Stmt) (t : TS) (r : RS) : Prop where
  p : PSs X st t
  s : SndS G E t r
/-- what the rules want of where they stand -/
structure Cn (X : Cx) (k : Nat) (q : Bool) : Prop where
  calm : X.calm = true
  K : X.K = G.W.K
  room : Room k X.A
  gd : q = true → X.A.guards = some []
  tk : L2N.Takes X (fun cls d _ H => E cls d H)
  ps : Passes (L2N.CX X.prog X.w) X E
  po : PassesOwn (model X.prog X.w) X.A X.env X.xe
  nd : X.N.Nodup
end
theorem passN {X : Cx} : Passes (L2N.CX X.prog X.w) X E0 := fun _ _ _ _ _ _ _ h => by
  obtain ⟨_, _, _, _, _, _, _, _, _, _, _, _, z⟩ := h
  exact z.elim
theorem takesN0 {X : Cx} : L2N.Takes X (fun _ _ _ _ => False) := fun _ _ x => by
  obtain ⟨_, _, _, _, _, _, _, _, _, _, _, _, _, _, _, _, z⟩ := x
  exact z.elim
/-- .. what those want that call nothing -/
structure Cq (G : Gw) (X : Cx) : Prop where
  K : X.K = G.W.K
  un : X.A.units + 200 < cLine
theorem Cn.q {G : Gw} {E : XK} {X : Cx} {k : Nat} {b : Bool} (c : Cn G E X k b) : Cq G X := ⟨c.K, by have := c.room.un; omega⟩
instance {G : Gw} {E : XK} {X : Cx} {k : Nat} {b : Bool} : CoeOut (Cn G E X k b) (Cq G X) := ⟨Cn.q⟩
theorem Out.tail {G : Gw} {E : XK} {Γ : List It} {p : It} {e : XD → Prop} (h : Out G E Γ e) : Out G E (p :: Γ) e := fun cls dx H x hx he => by
  refine h cls dx H x ⟨hx.hold.tail, hx.cls, fun f hf => ?_, hx.non⟩ he
  obtain ⟨d, v, h1, h2, h4, h3⟩ := hx.fld f hf
  have hs : ∀ b, b ∈ owns Γ → b ∈ owns (p :: Γ) := fun b hb => by rw [owns_cons]; exact List.mem_append_right _ hb
  exact ⟨d, v, h1, h2, fun z => h4 (hs _ z), At.step (step_perm hs) h3⟩
theorem Out.app {G : Gw} {E : XK} {Γ : List It} {e : XD → Prop} (h : Out G E Γ e) : ∀ Γ', Out G E (Γ' ++ Γ) e
  | [] => h
  | _ :: Γ' => (Out.app h Γ').tail
/-! ### names, constants -/
def rVar (i : Nat) : RE := fun ρ R _ => match ρ[i]? with
  | some (some (.d x)) => R (.d x) ρ
  | some (some (.m a m)) => match m.toD a with
    | some x => R (.d x) (ρ.set i (some (.d x)))
    | none => False
  | _ => False
def rC (x : D) : RE := fun ρ R _ => R (.d x) ρ
section
variable {G : Gw} {E : XK} {X : Cx}
theorem snd_var (i : Nat) : SndE G E (tVar i) (rVar i) := fun σ H ρ Γ Q R e r h q o => by
  unfold rVar at h
  split at h
  · rename_i x hx
    obtain ⟨v, hv, r'⟩ := r.read hx
    exact ⟨v, hv, q _ _ _ _ r' h⟩
  · rename_i a m hx
    split at h
    · rename_i x ht
      obtain ⟨hv, r'⟩ := r.readM hx ht
      exact ⟨_, hv, q _ _ _ _ r' h⟩
    · exact False.elim h
  · exact False.elim h
theorem de_var (i : Nat) {x : Str} {pos : Pos} (hN : X.N[i]? = some x := by rfl) (hv : Vis X.env.scope x := by first | exact Or.inl rfl | exact Or.inr (Or.inl rfl) | exact Or.inr (Or.inr rfl)) (hd : (x == ("__debug__" : Str)) = false := by decide)
    (hcd : (x == ("__classdict__" : Str)) = false := by decide) : DE G E X (.Name x pos) (tVar i) (rVar i) := ⟨pe_var hN hv hd hcd, snd_var i⟩
theorem snd_c {v : V} {x : D} (h : ∀ H O, At G.W H O v x) : SndE G E (tC v) (rC x) := fun σ H ρ Γ Q R e r hr q o => q _ _ _ _ (r.data (h _ _)) hr
theorem de_int {i j pos} : DE G E X (.Constant (.int i) j pos) (tC (.int i)) (rC (.int i)) := ⟨pe_int, snd_c fun _ _ => .int i⟩
theorem de_bl {b j pos} : DE G E X (.Constant (.bool b) j pos) (tC (.bl b)) (rC (.bl b)) := ⟨pe_bl, snd_c fun _ _ => .bl b⟩
theorem de_non {j pos} : DE G E X (.Constant .none j pos) (tC .non) (rC .non) := ⟨pe_non, snd_c fun _ _ => .non⟩
theorem de_str {x j pos} (h : okS x := by decide +kernel) : DE G E X (.Constant (.str x) j pos) (tC (.str x)) (rC (.str x)) := ⟨pe_str, snd_c fun _ _ => .str x h⟩
theorem de_globS {x y : Str} {t : Tok} {pos : Pos} (hm : X.mg x = some (.str y t)) (h : okS y := by decide +kernel) (hg : Gl X x := by rfl) (hd : (x == ("__debug__" : Str)) = false := by decide) : DE G E X (.Name x pos) (tC (.str y)) (rC (.str y)) := ⟨pe_glob hg hm ⟨_, rfl⟩ hd, snd_c fun _ _ => .str y h⟩
theorem de_globI {x : Str} {i : Int} {t : Tok} {pos : Pos} (hm : X.mg x = some (.int i t)) (hg : Gl X x := by rfl) (hd : (x == ("__debug__" : Str)) = false := by decide) : DE G E X (.Name x pos) (tC (.int i)) (rC (.int i)) := ⟨pe_glob hg hm ⟨_, rfl⟩ hd, snd_c fun _ _ => .int i⟩
/-! ### operators by values -/
/-- a pure operator: what it gives of two things -/
abbrev F2 := S → S → (S → Prop) → Prop
def Bv2 (G : Gw) (r : R2) (g : F2) : Prop := ∀ σ H ρ Γ x s y t (Q : VK) (R : S → Prop), Rep G.W σ H ρ ((y, t) :: (x, s) :: Γ) → g s t R → (∀ v z H', Rep G.W σ H' ρ ((v, z) :: Γ) → R z → Q v H') → r x y H Q
def rBin (g : F2) (ra rb : RE) : RE := fun ρ R e => ra ρ (fun s ρ1 => rb ρ1 (fun t ρ2 => g s t fun z => R z ρ2) e) e
theorem snd_bin {r : R2} {g : F2} {ta tb : TE} {ra rb : RE} (b : Bv2 G r g) (ha : SndE G E ta ra) (hb : SndE G E tb rb) : SndE G E (tOp r ta tb) (rBin g ra rb) := fun σ H ρ Γ Q R e re h q o =>
  ha σ H ρ Γ _ _ e re h (fun x s ρ1 H1 r1 h1 => hb σ H1 ρ1 _ _ _ e r1 h1 (fun y t ρ2 H2 r2 h2 => b σ H2 ρ2 Γ x s y t Q _ r2 h2 fun v z H3 r3 h3 => q v z ρ2 H3 r3 h3) o.tail) o
variable {a b : Expr} {ta tb : TE} {ra rb : RE} {pos : Pos} {k : Nat}
theorem de_op {op : Operator} {r : R2} {g : F2} (ho : OpR X (binaryOp op) r) (v : Bv2 G r g) (ha : DE G E X a ta ra) (hb : DE G E X b tb rb) : DE G E X (.BinOp a op b pos) (tOp r ta tb) (rBin g ra rb) := ⟨pe_op ho ha.p hb.p, snd_bin v ha.s hb.s⟩
theorem de_cmp {op : CmpOp} {r : R2} {g : F2} (ho : OpR X (compareOp op) r) (v : Bv2 G r g) (ha : DE G E X a ta ra) (hb : DE G E X b tb rb) (hm : behindInMarks op b = false) : DE G E X (.Compare a [op] [b] pos) (tOp r ta tb) (rBin g ra rb) := ⟨pe_cmpR ho ha.p hb.p hm, snd_bin v ha.s hb.s⟩
theorem Bv2.or {r r' : R2} {g g' : F2} (h : Bv2 G r g) (h' : Bv2 G r' g') : Bv2 G (fun x y H Q => r x y H Q ∨ r' x y H Q) (fun s t R => g s t R ∨ g' s t R) := fun σ H ρ Γ x s y t Q R re hg q => Or.elim hg (fun z => .inl (h σ H ρ Γ x s y t Q R re z q)) fun z => .inr (h' σ H ρ Γ x s y t Q R re z q)
end
end QL
set_option Elab.async false
set_option linter.all false
set_option maxRecDepth 100000
set_option maxHeartbeats 4000000
namespace QL
open PySem L2
open PySem.W (Frag)
/-- what an option holds is so -/
def optP {α : Type} (o : Option α) (P : α → Prop) : Prop := match o with
  | some x => P x
  | none => False
theorem opt_ok {α : Type} {o : Option α} {x : α} {P : α → Prop} (e : o = some x) (h : P x) : optP o P := by
  subst e; exact h
theorem opt_get {α : Type} {o : Option α} {P : α → Prop} (h : optP o P) : ∃ x, o = some x ∧ P x := by
  cases o with
  | none => exact False.elim h
  | some x => exact ⟨x, rfl, h⟩
/-- a thing as a datum -/
def S.dat : S → Option D
  | .d x => some x
  | .m a y => y.toD a
def dats : List S → Option (List D)
  | [] => some []
  | s :: ss => match s.dat, dats ss with
    | some x, some xs => some (x :: xs)
    | _, _ => none
section
variable {W : Wd} {σ : L2.St} {H H' : Hp} {ρ : Env} {Γ Γ' : List It} {i : Nat} {v : V} {s : S} {x : D} {a : Addr} {m : M}
theorem Rep.dat (r : Rep W σ H ρ ((v, s) :: Γ)) (e : s.dat = some x) : Rep W σ H ρ ((v, .d x) :: Γ) := by
  cases s with
  | d y => cases e; exact r
  | m a m => exact r.freeze e
theorem Rep.dats : ∀ {vs : List V} {ss : List S} {ds : List D} {Γ : List It}, vs.length = ss.length → QL.dats ss = some ds → Rep W σ H ρ (vs.zip ss ++ Γ) → Rep W σ H ρ (vs.zip (ds.map S.d) ++ Γ) ∧ vs.length = ds.length
  | [], [], ds, Γ, _, e, r => by cases e; exact ⟨r, rfl⟩
  | v :: vs, s :: ss, ds, Γ, hl, e, r => by
    unfold QL.dats at e
    split at e
    · rename_i x xs h1 h2
      cases e
      have r1 : Rep W σ H ρ ((v, s) :: (vs.zip ss ++ Γ)) := r
      have r2 := (r1.dat h1).perm (perm_mid (vs.zip ss) Γ (v, .d x)).symm
      obtain ⟨r3, h3⟩ := Rep.dats (by simpa using hl) h2 r2
      exact ⟨r3.perm (perm_mid _ _ _), by rw [List.length_cons, List.length_cons, h3]⟩
    · cases e
  | [], _ :: _, _, _, h, _, _ => by simp at h
  | _ :: _, [], _, _, h, _, _ => by simp at h
end
theorem owns_dats : ∀ (vs : List V) (ds : List D) (I : List It), owns (vs.zip (ds.map S.d) ++ I) = owns I
  | [], _, _ => rfl
  | _ :: _, [], _ => rfl
  | v :: vs, d :: ds, I => by
    show owns ((v, S.d d) :: (vs.zip (ds.map S.d) ++ I)) = owns I
    rw [owns_cons, owns_dats vs ds I]
    rfl
theorem at_dats {W : Wd} {H : Hp} {O : List Addr} : ∀ {vs : List V} {ds : List D}, vs.length = ds.length → (∀ p ∈ vs.zip (ds.map S.d), SAt W H O p.1 p.2) → AtL W H O vs ds
  | [], [], _, _ => .nil
  | v :: vs, d :: ds, h, f => .cons (f (v, .d d) List.mem_cons_self) (at_dats (by simpa using h) fun p hp => f p (List.mem_cons_of_mem _ hp))
  | [], _ :: _, h, _ => by simp at h
  | _ :: _, [], h, _ => by simp at h
/-- what an operation by values may hand back -/
structure Ret (W : Wd) (H : Hp) (O : List Addr) (Q : VK) (R : S → Prop) : Prop where
  dat : ∀ v x H', Same H H' → At W H' O v x → R (.d x) → Q v H'
  own : ∀ p m H', H p = none → Same H H' → MAt W H' (p :: O) p m → (∀ o, H' p = some o → ∀ c q, o ≠ LamX.CodeO c q) → R (.m p m) → Q (.ref p) H'
  fr : ∀ b ∈ O, ∃ o, H b = some o ∧ Mut (some o)
theorem Ret.here {W : Wd} {H : Hp} {O : List Addr} {Q : VK} {R : S → Prop} (r : Ret W H O Q R) {v : V} {x : D} (a : At W H O v x) (h : R (.d x)) : Q v H := r.dat v x H (.refl H) a h
theorem Ret.nin {W : Wd} {H : Hp} {O : List Addr} {Q : VK} {R : S → Prop} (r : Ret W H O Q R) {p : Addr} (n : H p = none) : p ∉ O := fun z => by
  obtain ⟨o, e, _⟩ := r.fr p z
  rw [n] at e; cases e
theorem same_new {H : Hp} {p : Addr} {o : HO} (h : H p = none) : Same H (upd H p o) := fun b x e => by
  rw [upd_ne (ne_of_none e h)]
  exact e
theorem AtL.same {W : Wd} {H H' : Hp} {O : List Addr} {vs : List V} {ds : List D} (k : Same H H') (h : AtL W H O vs ds) : AtL W H' O vs ds := AtL.step ⟨fun b o _ e => k b o e, fun b hb => .inl hb⟩ h
theorem At.same {W : Wd} {H H' : Hp} {O : List Addr} {v : V} {d : D} (k : Same H H') (h : At W H O v d) : At W H' O v d := At.step ⟨fun b o _ e => k b o e, fun b hb => .inl hb⟩ h
theorem At.tuple {W : Wd} {H : Hp} {O : List Addr} {a : Addr} {ds : List D} (h : At W H O (.ref a) (.tup ds)) : ∃ vs, SqT W.K H a vs ∧ AtL W H O vs ds := by
  cases h with
  | tup h t =>
    rcases h with h | ⟨rfl, h⟩
    · exact ⟨_, .inl (.inl h.1), t⟩
    · exact ⟨_, h H, t⟩
theorem At.sqT {K : Frag} {H : Hp} {O : List Addr} {a : Addr} {vs : List V} (h : TpAt K H O a vs) : SqT K H a vs := by
  rcases h with h | ⟨rfl, h⟩
  · exact .inl (.inl h.1)
  · exact h H
theorem At.list {W : Wd} {H : Hp} {O : List Addr} {a : Addr} {ds : List D} (h : At W H O (.ref a) (.lst ds)) : ∃ vs, SqL W.K H a vs ∧ AtL W H O vs ds := by
  cases h with
  | lst h _ t => exact ⟨_, .inl (.inl h), t⟩
theorem Ret.newT {W : Wd} {H : Hp} {O : List Addr} {Q : VK} {R : S → Prop} (r : Ret W H O Q R) {vs : List V} {ds : List D} (a : AtL W H O vs ds) (h : R (.d (.tup ds))) {p : Addr} (n : H p = none) : Q (.ref p) (upd H p (.tup vs)) :=
  r.dat _ _ _ (same_new n) (.tup (.inl ⟨upd_same, r.nin n⟩) (a.same (same_new n))) h
theorem lst_nc {vs : List V} (c : Addr) (q : Str) : HO.lst vs ≠ LamX.CodeO c q := fun z => by
  unfold LamX.CodeO at z; cases z
theorem Ret.newL {W : Wd} {H : Hp} {O : List Addr} {Q : VK} {R : S → Prop} (r : Ret W H O Q R) {vs : List V} {ds : List D} (a : AtL W H O vs ds) {p : Addr} (h : R (.m p (.lst ds))) (n : H p = none) : Q (.ref p) (upd H p (.lst vs)) :=
  r.own p (.lst ds) _ n (same_new n) ⟨vs, upd_same, AtL.step ⟨fun b o _ e => same_new n b o e, fun b hb => (List.mem_cons.mp hb).elim (fun z => .inr (z ▸ n)) .inl⟩ a⟩ (fun o e => by rw [upd_same] at e; cases e; exact lst_nc) h
/-- by values, one list of arguments -/
abbrev F1 := List S → (S → Prop) → Prop
abbrev G1 := List D → (S → Prop) → Prop
abbrev G2 := D → D → (S → Prop) → Prop
def Val1 (W : Wd) (r : List V → Hp → VK → Prop) (f : G1) : Prop := ∀ H O vs ds Q R, AtL W H O vs ds → f ds R → Ret W H O Q R → r vs H Q
def Val2 (W : Wd) (r : R2) (f : G2) : Prop := ∀ H O x d y e Q R, At W H O x d → At W H O y e → f d e R → Ret W H O Q R → r x y H Q
def lift1 (f : G1) : F1 := fun ss R => match dats ss with
  | some ds => f ds R
  | none => False
def lift2 (f : G2) : F2 := fun s t R => match s.dat, t.dat with
  | some x, some y => f x y R
  | _, _ => False
def Bv1 (G : Gw) (r : List V → Hp → VK → Prop) (g : F1) : Prop := ∀ σ H ρ Γ vs ss (Q : VK) (R : S → Prop), vs.length = ss.length → Rep G.W σ H ρ (vs.zip ss ++ Γ) → g ss R → (∀ v z H', Rep G.W σ H' ρ ((v, z) :: Γ) → R z → Q v H') → r vs H Q
theorem ret_of {W : Wd} {σ : L2.St} {H : Hp} {ρ : Env} {Γ : List It} {Q : VK} {R : S → Prop} (r : Rep W σ H ρ Γ) (q : ∀ v z H', Rep W σ H' ρ ((v, z) :: Γ) → R z → Q v H') : Ret W H (owns (slots σ ρ ++ Γ)) Q R :=
  ⟨fun v x H' k a h => q _ _ _ ((r.grow k).data a) h, fun p m H' n k a nc h => q _ _ _ (r.own n k a nc) h, fun b hb => r.hold.own_there hb⟩
theorem Rep.tailD {W : Wd} {σ : L2.St} {H : Hp} {ρ : Env} : ∀ {vs : List V} {ds : List D} {Γ : List It}, Rep W σ H ρ (vs.zip (ds.map S.d) ++ Γ) → Rep W σ H ρ Γ
  | [], _, _, r => r
  | _ :: _, [], _, r => r
  | v :: vs, d :: ds, Γ, r => Rep.tailD (vs := vs) (ds := ds) (Rep.drop (p := (v, .d d)) r)
theorem bv1 {G : Gw} {r : List V → Hp → VK → Prop} {f : G1} (h : Val1 G.W r f) : Bv1 G r (lift1 f) := fun σ H ρ Γ vs ss Q R hl re hg q => by
  unfold lift1 at hg
  split at hg
  · rename_i ds hd
    obtain ⟨r1, h1⟩ := Rep.dats hl hd re
    have rt := r1.tailD
    have eo : owns (slots σ ρ ++ (vs.zip (ds.map S.d) ++ Γ)) = owns (slots σ ρ ++ Γ) := by
      rw [owns_app, owns_dats, ← owns_app]
    refine h H _ vs ds Q R (at_dats h1 fun p hp => ?_) hg (ret_of rt q)
    have z := r1.hold.at_ p (List.mem_append_right _ (List.mem_append_left _ hp))
    rw [eo] at z
    exact z
  · exact False.elim hg
theorem bv2 {G : Gw} {r : R2} {f : G2} (h : Val2 G.W r f) : Bv2 G r (lift2 f) := fun σ H ρ Γ x s y t Q R re hg q => by
  unfold lift2 at hg
  split at hg
  · rename_i d e hd he
    have r1 := ((re.dat he).perm (List.Perm.swap _ _ _)).dat hd
    have rt := r1.drop.drop
    have h1 := r1.hold.at_ (x, .d d) (List.mem_append_right _ List.mem_cons_self)
    have h2 := r1.hold.at_ (y, .d e) (List.mem_append_right _ (List.mem_cons_of_mem _ List.mem_cons_self))
    have eo : owns (slots σ ρ ++ (x, S.d d) :: (y, S.d e) :: Γ) = owns (slots σ ρ ++ Γ) := by
      rw [owns_app, owns_app]; rfl
    rw [eo] at h1 h2
    exact h H _ x d y e Q R h1 h2 hg (ret_of rt q)
  · exact False.elim hg
theorem Val1.or {W : Wd} {r r' : List V → Hp → VK → Prop} {f f' : G1} (h : Val1 W r f) (h' : Val1 W r' f') : Val1 W (fun xs H Q => r xs H Q ∨ r' xs H Q) (fun ds R => f ds R ∨ f' ds R) := fun H O vs ds Q R a g q => Or.elim g (fun z => .inl (h H O vs ds Q R a z q)) fun z => .inr (h' H O vs ds Q R a z q)
/-! ### whole numbers -/
def gI (f : Int → Int → D) : G2
  | .int i, .int j, R => R (.d (f i j))
  | _, _, _ => False
def gIc (c : Int → Int → Prop) (f : Int → Int → D) : G2
  | .int i, .int j, R => c i j ∧ R (.d (f i j))
  | _, _, _ => False
section
variable {W : Wd}
theorem v_I {r : Int → Int → V} {f : Int → Int → D} (h : ∀ H O i j, At W H O (r i j) (f i j)) : Val2 W (rI0 r) (gI f) := fun H O x d y e Q R hx hy hg q => by
  unfold gI at hg
  split at hg
  · cases hx; cases hy
    exact ⟨_, _, rfl, rfl, q.here (h _ _ _ _) hg⟩
  · exact False.elim hg
theorem v_Ic {c : Int → Int → Prop} {r : Int → Int → V} {f : Int → Int → D} (h : ∀ H O i j, At W H O (r i j) (f i j)) : Val2 W (rI c r) (gIc c f) := fun H O x d y e Q R hx hy hg q => by
  unfold gIc at hg
  split at hg
  · cases hx; cases hy
    exact ⟨_, _, rfl, rfl, hg.1, q.here (h _ _ _ _) hg.2⟩
  · exact False.elim hg
end
section
variable {G : Gw} {E : XK} {X : Cx} {a b c : Expr} {ta tb tc : TE} {ra rb rc : RE} {pos : Pos}
theorem de_sub (ha : DE G E X a ta ra) (hb : DE G E X b tb rb) : DE G E X (.BinOp a .Sub b pos) (tOp (rI0 fun i j => .int (i - j)) ta tb) (rBin (lift2 (gI fun i j => .int (i - j))) ra rb) := de_op op_sub (bv2 (v_I fun _ _ _ _ => .int _)) ha hb
theorem de_mul (ha : DE G E X a ta ra) (hb : DE G E X b tb rb) : DE G E X (.BinOp a .Mult b pos) (tOp (rI CMul fun i j => .int (i * j)) ta tb) (rBin (lift2 (gIc CMul fun i j => .int (i * j))) ra rb) := de_op op_mul (bv2 (v_Ic fun _ _ _ _ => .int _)) ha hb
theorem de_fdiv (ha : DE G E X a ta ra) (hb : DE G E X b tb rb) : DE G E X (.BinOp a .FloorDiv b pos) (tOp (rI CDiv fun i j => .int (i / j)) ta tb) (rBin (lift2 (gIc CDiv fun i j => .int (i / j))) ra rb) := de_op op_fdiv (bv2 (v_Ic fun _ _ _ _ => .int _)) ha hb
theorem de_mod (ha : DE G E X a ta ra) (hb : DE G E X b tb rb) : DE G E X (.BinOp a .Mod b pos) (tOp (rI (fun _ j => 0 < j) fun i j => .int (i % j)) ta tb) (rBin (lift2 (gIc (fun _ j => 0 < j) fun i j => .int (i % j))) ra rb) := de_op op_mod (bv2 (v_Ic fun _ _ _ _ => .int _)) ha hb
theorem de_pow (ha : DE G E X a ta ra) (hb : DE G E X b tb rb) : DE G E X (.BinOp a .Pow b pos) (tOp (rI CPow fun i j => .int (i ^ j.toNat)) ta tb) (rBin (lift2 (gIc CPow fun i j => .int (i ^ j.toNat))) ra rb) := de_op op_pow (bv2 (v_Ic fun _ _ _ _ => .int _)) ha hb
theorem de_addI (ha : DE G E X a ta ra) (hb : DE G E X b tb rb) : DE G E X (.BinOp a .Add b pos) (tOp (rI0 fun i j => .int (i + j)) ta tb) (rBin (lift2 (gI fun i j => .int (i + j))) ra rb) := de_op op_add (bv2 (v_I fun _ _ _ _ => .int _)) ha hb
theorem de_lt (ha : DE G E X a ta ra) (hb : DE G E X b tb rb) : DE G E X (.Compare a [.Lt] [b] pos) (tOp (rI0 fun i j => .bl (decide (i < j))) ta tb) (rBin (lift2 (gI fun i j => .bl (decide (i < j)))) ra rb) := de_cmp op_lt (bv2 (v_I fun _ _ _ _ => .bl _)) ha hb (nomark _)
theorem de_le (ha : DE G E X a ta ra) (hb : DE G E X b tb rb) : DE G E X (.Compare a [.LtE] [b] pos) (tOp (rI0 fun i j => .bl (decide (i ≤ j))) ta tb) (rBin (lift2 (gI fun i j => .bl (decide (i ≤ j)))) ra rb) := de_cmp op_le (bv2 (v_I fun _ _ _ _ => .bl _)) ha hb (nomark _)
theorem de_gt (ha : DE G E X a ta ra) (hb : DE G E X b tb rb) : DE G E X (.Compare a [.Gt] [b] pos) (tOp (rI0 fun i j => .bl (decide (j < i))) ta tb) (rBin (lift2 (gI fun i j => .bl (decide (j < i)))) ra rb) := de_cmp op_gt (bv2 (v_I fun _ _ _ _ => .bl _)) ha hb (nomark _)
theorem de_ge (ha : DE G E X a ta ra) (hb : DE G E X b tb rb) : DE G E X (.Compare a [.GtE] [b] pos) (tOp (rI0 fun i j => .bl (decide (j ≤ i))) ta tb) (rBin (lift2 (gI fun i j => .bl (decide (j ≤ i)))) ra rb) := de_cmp op_ge (bv2 (v_I fun _ _ _ _ => .bl _)) ha hb (nomark _)
end
/-! ### tests -/
/-- a truth as a test -/
def rTst (r : RE) : RT := fun ρ R e => r ρ (fun s ρ' => match s with
  | .d (.bl b) => R b ρ'
  | _ => False) e
def rTrue : D → (Bool → Prop) → Prop
  | .bl b, R => R b
  | .non, R => R false
  | .int i, R => R (i != 0)
  | .str z, R => R (((z.length : Nat) : Int) != 0)
  | .lst xs, R => R (!xs.isEmpty)
  | .tup xs, R => R (!xs.isEmpty)
  | _, _ => False
def rTru (r : RE) : RT := fun ρ R e => r ρ (fun s ρ' => match s.dat with
  | some x => rTrue x fun b => R b ρ'
  | none => False) e
def rNot (r : RT) : RT := fun ρ R e => r ρ (fun b ρ' => R (!b) ρ') e
def rAnd (r u : RT) : RT := fun ρ R e => r ρ (fun b ρ' => if b = true then u ρ' R e else R false ρ') e
def rOr (r u : RT) : RT := fun ρ R e => r ρ (fun b ρ' => if b = true then R true ρ' else u ρ' R e) e
def rIfE (t : RT) (ra rb : RE) : RE := fun ρ R e => t ρ (fun b ρ' => if b = true then ra ρ' R e else rb ρ' R e) e
/-- and, or, not as values of truths -/
def rAndV (ra rb : RE) : RE := fun ρ R e => rTst ra ρ (fun b ρ' => if b = true then rb ρ' R e else R (.d (.bl false)) ρ') e
def rOrV (ra rb : RE) : RE := fun ρ R e => rTst ra ρ (fun b ρ' => if b = true then R (.d (.bl true)) ρ' else rb ρ' R e) e
def rNotV (ra : RE) : RE := fun ρ R e => rTst ra ρ (fun b ρ' => R (.d (.bl !b)) ρ') e
section
variable {G : Gw} {E : XK} {X : Cx} {a b c : Expr} {ta tb tc : TE} {ra rb rc : RE} {tA tB' : TT} {rA rB : RT} {rest : List Expr} {pos : Pos}
theorem snd_tst (h : SndE G E ta ra) : SndT G E (tB ta) (rTst ra) := fun σ H ρ Γ Q R e r hr q o => h σ H ρ Γ _ _ e r hr (fun v s ρ' H' r' h' => by
  try dsimp only at h'
  split at h'
  · rename_i b
    have z : At G.W H' _ v (.bl b) := r'.head
    cases z
    exact ⟨b, rfl, q _ _ _ r'.drop h'⟩
  · exact False.elim h') o
theorem dt_val (h : DE G E X a ta ra) (he : ∀ whole, isTrue a X.env whole = (do let v ← whole; standAt a.pos; holding [v] (truthy v)) := by intro _; rfl) : DT G E X a (tB ta) (rTst ra) := ⟨pt_val h.p he, snd_tst h.s⟩
/-- a comparison as a test -/
theorem dt_cmp {op : CmpOp} {r : R2} {g : F2} (ho : OpR X (compareOp op) r) (v : Bv2 G r g) (ha : DE G E X a ta ra) (hb : DE G E X b tb rb) (hm : behindInMarks op b = false) : DT G E X (.Compare a [op] [b] pos) (tTest (tOp r ta tb)) (rTst (rBin g ra rb)) := ⟨pt_cmpR ho ha.p hb.p hm, snd_tst (snd_bin v ha.s hb.s)⟩
theorem dt_lt (ha : DE G E X a ta ra) (hb : DE G E X b tb rb) : DT G E X (.Compare a [.Lt] [b] pos) (tTest (tOp (rI0 fun i j => .bl (decide (i < j))) ta tb)) (rTst (rBin (lift2 (gI fun i j => .bl (decide (i < j)))) ra rb)) := dt_cmp op_lt (bv2 (v_I fun _ _ _ _ => .bl _)) ha hb (nomark _)
theorem dt_le (ha : DE G E X a ta ra) (hb : DE G E X b tb rb) : DT G E X (.Compare a [.LtE] [b] pos) (tTest (tOp (rI0 fun i j => .bl (decide (i ≤ j))) ta tb)) (rTst (rBin (lift2 (gI fun i j => .bl (decide (i ≤ j)))) ra rb)) := dt_cmp op_le (bv2 (v_I fun _ _ _ _ => .bl _)) ha hb (nomark _)
theorem dt_gt (ha : DE G E X a ta ra) (hb : DE G E X b tb rb) : DT G E X (.Compare a [.Gt] [b] pos) (tTest (tOp (rI0 fun i j => .bl (decide (j < i))) ta tb)) (rTst (rBin (lift2 (gI fun i j => .bl (decide (j < i)))) ra rb)) := dt_cmp op_gt (bv2 (v_I fun _ _ _ _ => .bl _)) ha hb (nomark _)
theorem dt_ge (ha : DE G E X a ta ra) (hb : DE G E X b tb rb) : DT G E X (.Compare a [.GtE] [b] pos) (tTest (tOp (rI0 fun i j => .bl (decide (j ≤ i))) ta tb)) (rTst (rBin (lift2 (gI fun i j => .bl (decide (j ≤ i)))) ra rb)) := dt_cmp op_ge (bv2 (v_I fun _ _ _ _ => .bl _)) ha hb (nomark _)
theorem isE {α β : Type} {l : List α} {l' : List β} (h : l.length = l'.length) : l.isEmpty = l'.isEmpty := by
  cases l <;> cases l' <;> first | rfl | (simp at h)
theorem tru_at {W : Wd} {H : Hp} {O : List Addr} {v : V} {x : D} {R : Bool → Prop} (h : At W H O v x) (hr : rTrue x R) : ∃ b, TruV W.K v H b ∧ R b := by
  cases h with
  | non => exact ⟨_, rfl, hr⟩
  | bl b => exact ⟨_, rfl, hr⟩
  | int i => exact ⟨_, rfl, hr⟩
  | str z hz => exact ⟨_, ⟨hz.1, rfl⟩, hr⟩
  | @tup a0 vs0 ds h t =>
    obtain ⟨vs, h1, h2⟩ := At.tuple (.tup h t)
    refine ⟨_, .inr (.inl ⟨vs, h1, rfl⟩), ?_⟩
    have e : vs.isEmpty = ds.isEmpty := isE h2.length
    rw [e]; exact hr
  | @lst a0 vs0 ds h n t =>
    obtain ⟨vs, h1, h2⟩ := At.list (.lst h n t)
    refine ⟨_, .inl ⟨vs, h1, rfl⟩, ?_⟩
    have e : vs.isEmpty = ds.isEmpty := isE h2.length
    rw [e]; exact hr
  | dk h l n t => exact False.elim hr
  | dt h l n t => exact False.elim hr
  | ins h l n t => exact False.elim hr
  | rf a => exact False.elim hr
  | scr h => exact False.elim hr
  | exc h l t => exact False.elim hr
theorem dt_not (h : DT G E X a tA rA) : DT G E X (.UnaryOp .Not a pos) (tNot tA) (rNot rA) := ⟨pt_not h.p, fun σ H ρ Γ Q R e r hr q o => h.s σ H ρ Γ _ _ e r hr (fun b ρ' H' r' h' => q _ _ _ r' h') o⟩
theorem dt_of (h : DW G E X a tA rA) : DT G E X a tA rA := ⟨PW.pt h.p, h.s⟩
theorem dw_and1 (h : DT G E X a tA rA) : DW G E X (.BoolOp .And [a] pos) tA rA := ⟨pw_and1 h.p, h.s⟩
theorem dw_or1 (h : DT G E X a tA rA) : DW G E X (.BoolOp .Or [a] pos) tA rA := ⟨pw_or1 h.p, h.s⟩
theorem dw_and (ha : DT G E X a tA rA) (hb : DW G E X (.BoolOp .And (b :: rest) pos) tB' rB) : DW G E X (.BoolOp .And (a :: b :: rest) pos) (tAnd tA tB') (rAnd rA rB) := ⟨pw_and ha.p hb.p, fun σ H ρ Γ Q R e r hr q o => ha.s σ H ρ Γ _ _ e r hr (fun c ρ' H' r' h' => by
  try dsimp only at h' ⊢
  cases c with
  | true => exact hb.s σ H' ρ' Γ Q R e r' h' q o
  | false => exact q _ _ _ r' h') o⟩
theorem dw_or (ha : DT G E X a tA rA) (hb : DW G E X (.BoolOp .Or (b :: rest) pos) tB' rB) : DW G E X (.BoolOp .Or (a :: b :: rest) pos) (tOr tA tB') (rOr rA rB) := ⟨pw_or ha.p hb.p, fun σ H ρ Γ Q R e r hr q o => ha.s σ H ρ Γ _ _ e r hr (fun c ρ' H' r' h' => by
  try dsimp only at h' ⊢
  cases c with
  | false => exact hb.s σ H' ρ' Γ Q R e r' h' q o
  | true => exact q _ _ _ r' h') o⟩
theorem de_ifE (hc : DT G E X c tA rA) (ha : DE G E X a ta ra) (hb : DE G E X b tb rb) : DE G E X (.IfExp c a b pos) (tIf tA ta tb) (rIfE rA ra rb) := ⟨pe_ifExp hc.p ha.p hb.p, fun σ H ρ Γ Q R e r hr q o => hc.s σ H ρ Γ _ _ e r hr (fun d ρ' H' r' h' => by
  try dsimp only at h' ⊢
  cases d with
  | true => exact ha.s σ H' ρ' Γ Q R e r' h' q o
  | false => exact hb.s σ H' ρ' Γ Q R e r' h' q o) o⟩
theorem de_one {op} (h : DE G E X a ta ra) : DE G E X (.BoolOp op [a] pos) ta ra := ⟨pe_one h.p, h.s⟩
theorem de_and (ha : DE G E X a ta ra) (hb : DE G E X (.BoolOp .And (b :: rest) pos) tb rb) : DE G E X (.BoolOp .And (a :: b :: rest) pos) (tAndV ta tb) (rAndV ra rb) := ⟨pe_and ha.p hb.p, fun σ H ρ Γ Q R e r hr q o =>
  snd_tst ha.s σ H ρ Γ (fun c H1 => if c = true then tb σ H1 Q else Q (.bl false) H1) _ e r hr (fun c ρ' H' r' h' => by
  try dsimp only at h' ⊢
  cases c with
  | true => exact hb.s σ H' ρ' Γ Q R e r' h' q o
  | false => exact q _ _ _ _ (r'.data (.bl false)) h') o⟩
theorem de_or (ha : DE G E X a ta ra) (hb : DE G E X (.BoolOp .Or (b :: rest) pos) tb rb) : DE G E X (.BoolOp .Or (a :: b :: rest) pos) (tOrV ta tb) (rOrV ra rb) := ⟨pe_or ha.p hb.p, fun σ H ρ Γ Q R e r hr q o =>
  snd_tst ha.s σ H ρ Γ (fun c H1 => if c = true then Q (.bl true) H1 else tb σ H1 Q) _ e r hr (fun c ρ' H' r' h' => by
  try dsimp only at h' ⊢
  cases c with
  | false => exact hb.s σ H' ρ' Γ Q R e r' h' q o
  | true => exact q _ _ _ _ (r'.data (.bl true)) h') o⟩
theorem de_not (ha : DE G E X a ta ra) : DE G E X (.UnaryOp .Not a pos) (tNotV ta) (rNotV ra) := ⟨pe_not ha.p, fun σ H ρ Γ Q R e r hr q o =>
  snd_tst ha.s σ H ρ Γ (fun c H1 => Q (.bl !c) H1) _ e r hr (fun c ρ' H' r' h' => q _ _ _ _ (r'.data (.bl _)) h') o⟩
end
end QL
set_option Elab.async false
set_option linter.all false
set_option maxRecDepth 100000
set_option maxHeartbeats 4000000
namespace QL
open PySem L2
open PySem.W (Frag)
/-! ### arguments, displays -/
def rNil : RA := fun ρ R _ => R [] ρ
def rCons (ra : RE) (rr : RA) : RA := fun ρ R e => ra ρ (fun s ρ1 => rr ρ1 (fun ss ρ2 => R (s :: ss) ρ2) e) e
def rTup (r : RA) : RE := fun ρ R e => r ρ (fun ss ρ' => match dats ss with
  | some ds => ds.length ≤ sizeLine ∧ R (.d (.tup ds)) ρ'
  | none => False) e
def rLst (r : RA) : RE := fun ρ R e => r ρ (fun ss ρ' => match dats ss with
  | some ds => ds.length ≤ sizeLine ∧ ∀ p, R (.m p (.lst ds)) ρ'
  | none => False) e
def rCB (g : F1) (r : RA) : RE := fun ρ R e => r ρ (fun ss ρ' => g ss fun z => R z ρ') e
section
variable {G : Gw} {E : XK} {X : Cx} {a b : Expr} {es : List Expr} {ta tb : TE} {ra rb : RE} {t : TA} {r : RA} {pos : Pos}
theorem da_nil : DA G E X [] tNil rNil := ⟨pa_nil, fun σ H ρ Γ Q R e re hr q o => q [] [] ρ H rfl re hr⟩
theorem snd_cons {tr : TA} {rr : RA} (ha : SndE G E ta ra) (hr : SndA G E tr rr) : SndA G E (tCons ta tr) (rCons ra rr) := fun σ H ρ Γ Q R e re h q o =>
  ha σ H ρ Γ _ _ e re h (fun x s ρ1 H1 r1 h1 => hr σ H1 ρ1 _ _ _ e r1 h1 (fun vs ss ρ2 H2 hl r2 h2 => q (x :: vs) (s :: ss) ρ2 H2 (by rw [List.length_cons, List.length_cons, hl]) (r2.perm (perm_mid _ _ _)) h2) o.tail) o
theorem da_cons {tr : TA} {rr : RA} (ha : DE G E X a ta ra) (hr : DA G E X es tr rr) (hs : starEach (a :: es) X.env = (false, eval a X.env) :: starEach es X.env := by rfl) : DA G E X (a :: es) (tCons ta tr) (rCons ra rr) := ⟨pa_cons ha.p hr.p hs, snd_cons ha.s hr.s⟩
theorem Rep.dats' {W : Wd} {σ : L2.St} {H : Hp} {ρ : Env} {vs : List V} {ss : List S} {ds : List D} {Γ : List It} (hl : vs.length = ss.length) (hd : QL.dats ss = some ds) (re : Rep W σ H ρ (vs.zip ss ++ Γ)) : Rep W σ H ρ Γ ∧ AtL W H (owns (slots σ ρ ++ Γ)) vs ds ∧ vs.length = ds.length := by
  obtain ⟨r1, h1⟩ := Rep.dats hl hd re
  refine ⟨r1.tailD, at_dats h1 fun p hp => ?_, h1⟩
  have eo : owns (slots σ ρ ++ (vs.zip (ds.map S.d) ++ Γ)) = owns (slots σ ρ ++ Γ) := by
    rw [owns_app, owns_dats, ← owns_app]
  have z := r1.hold.at_ p (List.mem_append_right _ (List.mem_append_left _ hp))
  rw [eo] at z
  exact z
theorem de_tup {x1} (h : DA G E X es t r) : DE G E X (.Tuple es x1 pos) (tTup t) (rTup r) := ⟨pe_tup h.p, fun σ H ρ Γ Q R e re hr q o => h.s σ H ρ Γ _ _ e re hr (fun vs ss ρ' H' hl r' h' => by
  try dsimp only at h'
  split at h'
  · rename_i ds hd
    obtain ⟨rt, ha, hn⟩ := Rep.dats' hl hd r'
    refine ⟨by rw [hn]; exact h'.1, fun p np => ?_⟩
    exact (ret_of (R := fun z => R z ρ') rt fun v z H2 r2 h2 => q v z ρ' H2 r2 h2).newT ha h'.2 np
  · exact False.elim h') o⟩
theorem de_lst (h : DA G E X es t r) : DE G E X (.List es pos) (tLst t) (rLst r) := ⟨pe_lst h.p, fun σ H ρ Γ Q R e re hr q o => h.s σ H ρ Γ _ _ e re hr (fun vs ss ρ' H' hl r' h' => by
  try dsimp only at h'
  split at h'
  · rename_i ds hd
    obtain ⟨rt, ha, hn⟩ := Rep.dats' hl hd r'
    refine ⟨by rw [hn]; exact h'.1, fun p np => ?_⟩
    exact (ret_of (R := fun z => R z ρ') rt fun v z H2 r2 h2 => q v z ρ' H2 r2 h2).newL ha (h'.2 p) np
  · exact False.elim h') o⟩
/-! ### built-ins by name -/
theorem snd_cb {rv : List V → Hp → VK → Prop} {g : F1} (v : Bv1 G rv g) (h : SndA G E t r) : SndE G E (tCB rv t) (rCB g r) := fun σ H ρ Γ Q R e re hr q o =>
  h σ H ρ Γ _ _ e re hr (fun vs ss ρ' H' hl r' h' => v σ H' ρ' Γ vs ss Q _ hl r' h' fun x z H2 r2 h2 => q x z ρ' H2 r2 h2) o
theorem de_callB {x : Str} {id : String} {p : Pos} {rv : List V → Hp → VK → Prop} {g : F1} (hc : CallR X (.builtin id) rv) (v : Bv1 G rv g) (hm : X.mg x = none) (hv : bootBuiltins x = some (.builtin id)) (h : DA G E X (a :: es) t r) (hg : Gl X x := by rfl) (hn : x ≠ "__name__" := by decide) (hdb : (x == ("__debug__" : Str)) = false := by decide)
    (he : starEach (a :: es) X.env = (false, eval a X.env) :: starEach es X.env := by rfl) (hpl : (backTo pos (starEach es X.env)).any (·.1) = false := by rfl) : DE G E X (.Call (.Name x p) (a :: es) [] pos) (tCB rv t) (rCB g r) := ⟨pe_callB hc hg hm hv h.p hn hdb he hpl, snd_cb v h.s⟩
theorem de_callTy {x : Str} {T : String} {p : Pos} {rv : List V → Hp → VK → Prop} {g : F1} (hc : CallR X (.type T) rv) (v : Bv1 G rv g) (hm : X.mg x = none) (hv : bootBuiltins x = some (.type T)) (h : DA G E X (a :: es) t r) (hg : Gl X x := by rfl) (hn : x ≠ "__name__" := by decide) (hdb : (x == ("__debug__" : Str)) = false := by decide)
    (he : starEach (a :: es) X.env = (false, eval a X.env) :: starEach es X.env := by rfl) (hpl : (backTo pos (starEach es X.env)).any (·.1) = false := by rfl) : DE G E X (.Call (.Name x p) (a :: es) [] pos) (tCB rv t) (rCB g r) := ⟨pe_callTy hc hg hm hv h.p hn hdb he hpl, snd_cb v h.s⟩
/-! ### items, by values -/
theorem de_ix {rv : R2} {g : F2} (hr : IxR X rv) (v : Bv2 G rv g) (ha : DE G E X a ta ra) (hb : DE G E X b tb rb) (hs : PlainIx b := by exact fun _ _ => rfl) : DE G E X (.Subscript a b pos) (tOp rv ta tb) (rBin g ra rb) := ⟨pe_ix hr ha.p hb.p hs, snd_bin v ha.s hb.s⟩
end
def gIx : G2
  | .lst xs, .int i, R => optP (atI xs i) fun d => R (.d d)
  | .tup xs, .int i, R => optP (atI xs i) fun d => R (.d d)
  | .str z, .int i, R => optP (atI z.cps.toList i) fun c => R (.d (.str ⟨#[c]⟩))
  | _, _, _ => False
theorem AtL.atI {W : Wd} {H : Hp} {O : List Addr} {vs : List V} {ds : List D} {i : Int} {d : D} (h : AtL W H O vs ds) (e : L2.atI ds i = some d) : ∃ v, L2.atI vs i = some v ∧ At W H O v d := by
  unfold L2.atI at e ⊢
  rw [h.length]
  cases hx : ixN ds.length i with
  | none => rw [hx] at e; cases e
  | some j =>
    rw [hx] at e
    obtain ⟨v, h1, h2⟩ := h.get (show ds[j]? = some d from e)
    exact ⟨v, h1, h2⟩
theorem one_le {n : Nat} (h : n.ble 100 = true) : n ≤ sizeLine := by
  have := Nat.le_of_ble_eq_true h
  rw [sizeLine_eq]; omega
theorem ok1 {z : Str} {c : Nat} (h : okS z) (hc : c ∈ z.cps.toList) : okS ⟨#[c]⟩ := by
  refine ⟨one_le rfl, ?_⟩
  have h2 := h.2
  unfold PyData.strOk at h2 ⊢
  rw [Array.all_eq_true'] at h2
  have := h2 c (Array.mem_toList_iff.mp hc)
  simpa using this
theorem atI_mem {α : Type} {xs : List α} {i : Int} {v : α} (h : L2.atI xs i = some v) : v ∈ xs := by
  obtain ⟨j, _, h2, _⟩ := atI_get h
  exact List.mem_of_getElem? h2
theorem v_ix {W : Wd} : Val2 W (rIx W.K) gIx := fun H O x d y e Q R hx hy hg q => by
  unfold gIx at hg
  split at hg
  · obtain ⟨d', hd, hg⟩ := opt_get hg
    cases hy
    cases hx with
    | lst h n t =>
      obtain ⟨vs, h1, h2⟩ := At.list (.lst h n t)
      obtain ⟨v, h3, h4⟩ := h2.atI hd
      exact .inl ⟨_, vs, _, v, rfl, rfl, h1, h3, q.here h4 hg⟩
  · obtain ⟨d', hd, hg⟩ := opt_get hg
    cases hy
    cases hx with
    | tup h t =>
      obtain ⟨vs, h1, h2⟩ := At.tuple (.tup h t)
      obtain ⟨v, h3, h4⟩ := h2.atI hd
      exact .inr (.inl ⟨_, vs, _, v, rfl, rfl, h1, h3, q.here h4 hg⟩)
  · obtain ⟨c, hd, hg⟩ := opt_get hg
    cases hy
    cases hx with
    | str _ hz => exact .inr (.inr ⟨_, _, c, rfl, rfl, hz.1, hd, q.here (.str _ (ok1 hz (atI_mem hd))) hg⟩)
  · exact False.elim hg
section
variable {G : Gw} {E : XK} {X : Cx} {k : Nat} {gq : Bool} {a b : Expr} {es : List Expr} {ta tb : TE} {ra rb : RE} {pos : Pos}
theorem ixK {K : Frag} (h : X.K = K) : IxR X (rIx K) := h ▸ ix_seq
theorem de_item (c : Cq G X) (ha : DE G E X a ta ra) (hb : DE G E X b tb rb) (hs : PlainIx b := by exact fun _ _ => rfl) : DE G E X (.Subscript a b pos) (tOp (rIx G.W.K) ta tb) (rBin (lift2 gIx) ra rb) := de_ix (ixK c.K) (bv2 v_ix) ha hb hs
end
/-! ### statements -/
def sSeq (r u : RS) : RS := fun d ρ => r { d with nx := fun ρ' => u d ρ' } ρ
def sNext : RS := fun d ρ => d.nx ρ
def sSet (i : Nat) (r : RE) : RS := fun d ρ => r ρ (fun s ρ' => i < ρ'.length ∧ d.nx (ρ'.set i (some s))) d.ex
def sRet (r : RE) : RS := fun d ρ => r ρ d.rt d.ex
def sRetN : RS := fun d ρ => d.rt (.d .non) ρ
/-- return x: what is in x is handed on as it is -/
def sRetV (i : Nat) : RS := fun d ρ => match ρ[i]? with
  | some (some s) => d.rt s (ρ.set i none)
  | _ => False
def sIf (c : RT) (r u : RS) : RS := fun d ρ => c ρ (fun b ρ' => if b = true then r d ρ' else u d ρ') d.ex
def sDrop (r : RE) : RS := fun d ρ => r ρ (fun _ ρ' => d.nx ρ') d.ex
section
variable {G : Gw} {E : XK} {X : Cx} {a b : Expr} {es : List Expr} {ta tb : TE} {ra rb : RE} {pos : Pos} {st : Stmt} {rest : List Stmt} {t u : TS} {r q : RS}
theorem EndsOk.next {Γ : List It} {D : Ends} {d : Rd} (h : EndsOk G E Γ D d) {f : L2.St → Hp → Prop} {g : Env → Prop} (hn : ∀ σ H ρ, Rep G.W σ H ρ Γ → g ρ → f σ H) : EndsOk G E Γ { D with nx := f } { d with nx := g } := ⟨hn, h.rt, h.bk, h.ct, h.ex⟩
theorem dss_nil : DSs G E X [] tNext sNext := ⟨pss_nil, fun σ H ρ Γ D d re hr o => o.nx σ H ρ re hr⟩
theorem dss_cons (h1 : DS G E X st t r) (h2 : DSs G E X rest u q) : DSs G E X (st :: rest) (tSeq t u) (sSeq r q) := ⟨pss_cons h1.p h2.p, fun σ H ρ Γ D d re hr o =>
  h1.s σ H ρ Γ _ _ re hr (o.next fun σ' H' ρ' re' h' => h2.s σ' H' ρ' Γ D d re' h' o)⟩
theorem dss_one (h : DS G E X st t r) : DSs G E X [st] t r := ⟨pss_one h.p, h.s⟩
theorem ds_pass : DS G E X (.Pass pos) tNext sNext := ⟨ps_pass, fun σ H ρ Γ D d re hr o => o.nx σ H ρ re hr⟩
theorem ds_set {i : Nat} {x : Str} {pos' : Pos} (he : DE G E X a ta ra) (hN : X.N.Nodup) (hi : X.N[i]? = some x := by rfl) (hx : Loc X.env.scope x := by first | exact Or.inl rfl | exact Or.inr rfl) (hs : swapsWith a (some (.Name x pos')) pos.line X.env = pure false := by rfl) (hf : X.fn x = true ∨ X.env.scope.names.lookup x = some .local := by first | exact .inl rfl | exact .inr rfl | assumption) :
    DS G E X (.Assign [.Name x pos'] a pos) (tAsg ta (gName i)) (sSet i ra) := ⟨ps_set hN hi hx he.p hs hf, fun σ H ρ Γ D d re hr o => he.s σ H ρ Γ _ _ d.ex re hr (fun v s ρ' H' r' h' => o.nx _ _ _ (r'.set h'.1) h'.2) o.ex⟩
theorem ds_expr (he : DE G E X a ta ra) (hs : swapsWith a none pos.line X.env = pure false := by rfl) : DS G E X (.Expr a pos) (tDrop ta) (sDrop ra) := ⟨ps_expr he.p hs, fun σ H ρ Γ D d re hr o => he.s σ H ρ Γ _ _ d.ex re hr (fun v s ρ' H' r' h' => o.nx _ _ _ r'.drop h') o.ex⟩
theorem ds_ret (he : DE G E X a ta ra) : DS G E X (.Return (some a) pos) (tRet ta) (sRet ra) := ⟨ps_ret he.p, fun σ H ρ Γ D d re hr o => he.s σ H ρ Γ _ _ d.ex re hr (fun v s ρ' H' r' h' => o.rt σ H' ρ' v s r' h') o.ex⟩
theorem ds_retN : DS G E X (.Return none pos) tRetN sRetN := ⟨ps_retN, fun σ H ρ Γ D d re hr o => o.rt σ H ρ _ _ (re.data .non) hr⟩
theorem ds_retV (i : Nat) {x : Str} {p : Pos} (hN : X.N[i]? = some x := by rfl) (hv : Vis X.env.scope x := by first | exact Or.inl rfl | exact Or.inr (Or.inl rfl) | exact Or.inr (Or.inr rfl)) (hd : (x == ("__debug__" : Str)) = false := by decide)
    (hcd : (x == ("__classdict__" : Str)) = false := by decide) : DS G E X (.Return (some (.Name x p)) pos) (tRet (tVar i)) (sRetV i) := ⟨ps_ret (pe_var hN hv hd hcd), fun σ H ρ Γ D d re hr o => by
  unfold sRetV at hr
  split at hr
  · rename_i s hs
    obtain ⟨v, h1, h2⟩ := re.lend hs
    exact ⟨v, h1, o.rt σ H _ v s h2 hr⟩
  · exact False.elim hr⟩
theorem ds_if {c : Expr} {x y : List Stmt} {tc : TT} {rc : RT} (hc : DT G E X c tc rc) (h1 : DSs G E X x t r) (h2 : DSs G E X y u q) : DS G E X (.If c x y pos) (tIfS tc t u) (sIf rc r q) := ⟨ps_if hc.p h1.p h2.p, fun σ H ρ Γ D d re hr o => hc.s σ H ρ Γ _ _ d.ex re hr (fun b ρ' H' r' h' => by
  try dsimp only at h' ⊢
  cases b with
  | true => exact h1.s σ H' ρ' Γ D d r' h' o
  | false => exact h2.s σ H' ρ' Γ D d r' h' o) o.ex⟩
end
/-- a branch that is never taken -/
def sDead : RS := fun _ _ => False
theorem dss_dead {G : Gw} {E : XK} {X : Cx} {body : List Stmt} : DSs G E X body (fun _ _ _ => False) sDead := ⟨⟨fun _ _ _ _ _ _ h => h.elim⟩, fun _ _ _ _ _ _ _ h _ => h⟩
theorem ds_dead {G : Gw} {E : XK} {X : Cx} {st : Stmt} : DS G E X st (fun _ _ _ => False) sDead := ⟨⟨fun _ _ _ _ _ _ h => h.elim⟩, fun _ _ _ _ _ _ _ h _ => h⟩
/-! ### targets -/
abbrev RG := S → Env → (Env → Prop) → Prop
abbrev RGs := List D → Env → (Env → Prop) → Prop
def SndG (G : Gw) (sl : List Nat) (t : TG) (g : RG) : Prop := ∀ v s σ H ρ Γ (Q : L2.St → Hp → Prop) (R : Env → Prop), Rep G.W σ H ρ ((v, s) :: Γ) → g s ρ R → (∀ σ' ρ', Rep G.W σ' H ρ' Γ → (∀ j : Nat, j ∉ sl → σ'[j]? = σ[j]?) → σ'.length = σ.length → R ρ' → Q σ' H) → t v σ H Q
def SndGs (G : Gw) (sl : List Nat) (t : TGs) (g : RGs) : Prop := ∀ vs ds σ H ρ Γ (Q : L2.St → Hp → Prop) (R : Env → Prop), vs.length = ds.length → Rep G.W σ H ρ (vs.zip (ds.map S.d) ++ Γ) → g ds ρ R → (∀ σ' ρ', Rep G.W σ' H ρ' Γ → (∀ j : Nat, j ∉ sl → σ'[j]? = σ[j]?) → σ'.length = σ.length → R ρ' → Q σ' H) → t vs σ H Q
structure DG (G : Gw) (X : Cx) (e : Expr) (sl : List Nat) (t : TG) (g : RG) : Prop where
  p : PG X e t
  s : SndG G sl t g
structure DGs (G : Gw) (X : Cx) (es : List Expr) (sl : List Nat) (t : TGs) (g : RGs) : Prop where
  p : PGs X es t
  s : SndGs G sl t g
def gN (i : Nat) : RG := fun s ρ R => i < ρ.length ∧ R (ρ.set i (some s))
def gsNil : RGs := fun ds ρ R => match ds with
  | [] => R ρ
  | _ => False
def gsCons (g : RG) (h : RGs) : RGs := fun ds ρ R => match ds with
  | x :: xs => g (.d x) ρ fun ρ' => h xs ρ' R
  | [] => False
def gT (n : Nat) (g : RGs) : RG := fun s ρ R => match s with
  | .d (.tup xs) => xs.length = n ∧ g xs ρ R
  | _ => False
section
variable {G : Gw} {E : XK} {X : Cx} {k : Nat} {gq : Bool} {a : Expr} {es : List Expr} {sl sl' : List Nat} {t : TG} {g : RG} {ts : TGs} {gs : RGs} {pos : Pos}
theorem dg_name (i : Nat) {x : Str} (hN : X.N.Nodup) (hi : X.N[i]? = some x := by rfl) (hx : Loc X.env.scope x := by first | exact Or.inl rfl | exact Or.inr rfl) (hf : X.fn x = true ∨ X.env.scope.names.lookup x = some .local := by first | exact .inl rfl | exact .inr rfl | assumption) : DG G X (.Name x pos) [i] (gName i) (gN i) :=
  ⟨pg_name hN hi hx hf, fun v s σ H ρ Γ Q R r h q => q _ _ (r.set h.1) (fun j hj => List.getElem?_set_ne (fun z => hj (by rw [z]; exact List.mem_cons_self))) (List.length_set ..) h.2⟩
theorem dgs_nil : DGs G X [] [] gNil gsNil := ⟨pgs_nil, fun vs ds σ H ρ Γ Q R hl r h q => by
  cases ds with
  | nil =>
    cases vs with
    | nil => exact ⟨rfl, q _ _ r (fun _ _ => rfl) rfl h⟩
    | cons v vs => simp at hl
  | cons x xs => exact False.elim h⟩
theorem dgs_cons (h : DG G X a sl t g) (hs : DGs G X es sl' ts gs) (he : (assignEach (a :: es) X.env).map (·.2) = assign a X.env :: (assignEach es X.env).map (·.2) := by rfl) : DGs G X (a :: es) (sl ++ sl') (gCons t ts) (gsCons g gs) := ⟨by
    first
      | exact pgs_cons h.p hs.p he
      | exact pgs_cons h.p hs.p, fun vs ds σ H ρ Γ Q R hl r hh q => by
  cases ds with
  | nil => exact False.elim hh
  | cons x xs =>
    cases vs with
    | nil => simp at hl
    | cons v vs =>
      refine ⟨v, vs, rfl, ?_⟩
      exact h.s v (.d x) σ H ρ _ _ _ r hh fun σ' ρ' r' k1 l1 h' => hs.s vs xs σ' H ρ' Γ Q R (by simpa using hl) r' h' fun σ2 ρ2 r2 k2 l2 h2 => q σ2 ρ2 r2 (fun j hj => (k2 j fun z => hj (List.mem_append_right _ z)).trans (k1 j fun z => hj (List.mem_append_left _ z))) (l2.trans l1) h2⟩
theorem sqK {K K' : Frag} (h : K = K') {n : Nat} {ts : TGs} : gTup K n ts = gTup K' n ts := by rw [h]
theorem at_items {W : Wd} {H : Hp} : ∀ {I : List It} {vs : List V} {ds : List D}, Hold W H I → AtL W H (owns I) vs ds → Hold W H (vs.zip (ds.map S.d) ++ I)
  | _, _, _, h, .nil => h
  | I, v :: vs, d :: ds, h, .cons a t => by
    have z := at_items h t
    show Hold W H ((v, S.d d) :: (vs.zip (ds.map S.d) ++ I))
    refine z.data ?_
    rw [owns_dats]; exact a
theorem dg_tup {x1 n : Nat} (c : Cn G E X k gq) (hs : DGs G X es sl ts gs) (hn : (assignEach es X.env).length = n := by rfl) (hst : (assignEach es X.env).findIdx? (·.1) = none := by rfl) : DG G X (.Tuple es x1 pos) sl (gTup G.W.K n ts) (gT n gs) := by
  refine ⟨?_, fun v s σ H ρ Γ Q R r h q => ?_⟩
  · have z := pg_tup (pos := pos) (k := x1) c.calm hs.p hn hst
    rw [sqK c.K] at z
    exact z
  · unfold gT at h
    split at h
    · rename_i xs
      have z : At G.W H _ v (.tup xs) := r.head
      cases z with
      | tup hh t =>
        obtain ⟨vs, h1, h2⟩ := At.tuple (.tup hh t)
        refine ⟨_, vs, rfl, h1, by rw [h2.length]; exact h.1, ?_⟩
        have r2 : Rep G.W σ H ρ (vs.zip (xs.map S.d) ++ Γ) := by
          refine r.drop.mapH fun hold => ?_
          have a2 : AtL G.W H (owns (slots σ ρ ++ Γ)) vs xs := AtL.step (step_perm fun b hb => by rw [owns_cons]; exact hb) h2
          refine (at_items hold a2).perm ?_
          rw [← List.append_assoc, ← List.append_assoc]
          exact List.perm_append_comm.append_right Γ
        exact hs.s vs xs σ H ρ Γ Q R h2.length r2 h.2 q
    · exact False.elim h
/-- target = e -/
def sAsg (r : RE) (g : RG) : RS := fun d ρ => r ρ (fun s ρ' => g s ρ' d.nx) d.ex
theorem ds_asg {ta : TE} {ra : RE} {tg : Expr} (he : DE G E X a ta ra) (hg : DG G X tg sl t g) (hs : swapsWithSole [tg] a pos.line X.env = pure false := by rfl) (hw : swappedStores [tg] a X.env = pure none := by rfl)
    (h1 : (assignEach [tg] X.env).map (·.2) = [assign tg X.env] := by rfl) : DS G E X (.Assign [tg] a pos) (tAsg ta t) (sAsg ra g) := ⟨ps_asg he.p hg.p hs hw h1, fun σ H ρ Γ D d re hr o => he.s σ H ρ Γ _ _ d.ex re hr (fun v s ρ' H' r' h' => hg.s v s σ H' ρ' Γ _ _ r' h' fun σ2 ρ2 r2 _ _ h2 => o.nx _ _ _ r2 h2) o.ex⟩
end
end QL
set_option Elab.async false
set_option linter.all false
set_option maxRecDepth 100000
set_option maxHeartbeats 4000000
namespace QL
open PySem L2
open PySem.W (Frag)
/-! ### what is walked -/
abbrev RI := Env → (List D → Env → Prop) → (XD → Prop) → Prop
/-- the walk J gives the data ds while what Γ says is held -/
def Walks (W : Wd) (J : L2.It) (ds : List D) (Γ1 : List It) : Prop := ∃ (P : Hp → Prop) (Y : Nat → Hp → V → Hp → Prop), L2.Walk J ds.length P Y ∧ (∀ H I, Hold W H (Γ1 ++ I) → P H) ∧
  ∀ i H x H' I d, ds[i]? = some d → Hold W H (Γ1 ++ I) → Y i H x H' → Hold W H' ((x, .d d) :: (Γ1 ++ I))
def SndI (G : Gw) (E : XK) (wi : TI) (r : RI) : Prop := ∀ σ H ρ Γ (Q : L2.It → Hp → Prop) R e, Rep G.W σ H ρ Γ → r ρ R e → (∀ J H1 ρ1 Γ1 ds, Rep G.W σ H1 ρ1 (Γ1 ++ Γ) → Walks G.W J ds Γ1 → R ds ρ1 → Q J H1) → Out G E Γ e → wi σ H Q
structure DI (G : Gw) (E : XK) (X : Cx) (tg e : Expr) (t : TI) (r : RI) : Prop where
  p : PI X tg e t
  s : SndI G E t r
theorem walks_list {W : Wd} {a : Addr} {ds : List D} : Walks W (Itl W.K a) ds [(.ref a, .d (.lst ds))] := by
  refine ⟨fun H => ∃ O, At W H O (.ref a) (.lst ds), fun i H x H' => H' = H ∧ ∀ O, At W H O (.ref a) (.lst ds) → ∃ d, ds[i]? = some d ∧ At W H O x d, ⟨fun i H hi ⟨O, h⟩ => ?_, fun H ⟨O, h⟩ => ?_, fun i H x H' hi _ y => ⟨y.1, fun O h => ?_⟩⟩, fun H I h => ⟨_, h.head⟩, fun i H x H' I d hd h y => ?_⟩
  · obtain ⟨vs, h1, h2⟩ := h.list
    have hl : i < vs.length := by rw [h2.length]; exact hi
    exact ⟨vs, vs[i], h1, List.getElem?_eq_getElem hl⟩
  · obtain ⟨vs, h1, h2⟩ := h.list
    exact ⟨vs, h1, Nat.le_of_eq h2.length⟩
  · obtain ⟨vs, h1, h2⟩ := h.list
    exact h2.getV (y.2 vs h1)
  · obtain ⟨rfl, hy⟩ := y
    obtain ⟨d', h1, h2⟩ := hy _ h.head
    rw [hd] at h1; cases h1
    exact h.data h2
theorem walks_tup {W : Wd} {a : Addr} {ds : List D} : Walks W (Itt W.K a) ds [(.ref a, .d (.tup ds))] := by
  refine ⟨fun H => ∃ O, At W H O (.ref a) (.tup ds), fun i H x H' => H' = H ∧ ∀ O, At W H O (.ref a) (.tup ds) → ∃ d, ds[i]? = some d ∧ At W H O x d, ⟨fun i H hi ⟨O, h⟩ => ?_, fun H ⟨O, h⟩ => ?_, fun i H x H' hi _ y => ⟨y.1, fun O h => ?_⟩⟩, fun H I h => ⟨_, h.head⟩, fun i H x H' I d hd h y => ?_⟩
  · obtain ⟨vs, h1, h2⟩ := h.tuple
    have hl : i < vs.length := by rw [h2.length]; exact hi
    exact ⟨vs, vs[i], h1, List.getElem?_eq_getElem hl⟩
  · obtain ⟨vs, h1, h2⟩ := h.tuple
    exact ⟨vs, h1, Nat.le_of_eq h2.length⟩
  · obtain ⟨vs, h1, h2⟩ := h.tuple
    exact h2.getV (y.2 vs h1)
  · obtain ⟨rfl, hy⟩ := y
    obtain ⟨d', h1, h2⟩ := hy _ h.head
    rw [hd] at h1; cases h1
    exact h.data h2
def signs (z : Str) : List D := z.cps.toList.map fun c => .str ⟨#[c]⟩
theorem walks_str {W : Wd} {z : Str} (hz : okS z) : Walks W (Its z) (signs z) [] := by
  have e : (signs z).length = z.cps.size := by unfold signs; rw [List.length_map, Array.length_toList]
  refine ⟨_, _, by rw [e]; exact walk_str, fun _ _ _ => trivial, fun i H x H' I d hd h y => ?_⟩
  obtain ⟨rfl, c, hc, rfl⟩ := y
  unfold signs at hd
  rw [List.getElem?_map, Array.getElem?_toList, hc] at hd
  cases hd
  exact h.data (.str _ (ok1 hz (by rw [Array.mem_toList_iff]; exact Array.mem_of_getElem? hc)))
def intsD (n : Nat) : List D := (List.range n).map fun k => .int (k : Nat)
theorem walks_range {W : Wd} {n : Nat} : Walks W (Itr 0 n) (intsD n) [] := by
  have e : (intsD n).length = n := by unfold intsD; rw [List.length_map, List.length_range]
  refine ⟨_, _, by rw [e]; exact walk_range, fun _ _ _ => trivial, fun i H x H' I d hd h y => ?_⟩
  obtain ⟨rfl, rfl⟩ := y
  unfold intsD at hd
  rw [List.getElem?_map] at hd
  cases hr : (List.range n)[i]? with
  | none => rw [hr] at hd; cases hd
  | some j =>
    obtain ⟨h1, h2⟩ := List.getElem?_eq_some_iff.mp hr
    rw [List.getElem_range] at h2
    subst h2
    rw [hr] at hd; cases hd
    have e0 : (0 : Int) + (i : Nat) = (i : Nat) := Int.zero_add _
    show Hold W _ ((V.int (0 + (i : Nat)), S.d (D.int (i : Nat))) :: I)
    rw [e0]
    exact h.data (.int _)
/-- a list, a tuple or a text, walked -/
def iSeq (K : Frag) (te : TE) : TI := fun σ H R => te σ H fun x H1 => (∃ a, x = .ref a ∧ (∃ xs, SqL K H1 a xs) ∧ R (Itl K a) H1) ∨ (∃ a, x = .ref a ∧ (∃ xs, SqT K H1 a xs) ∧ R (Itt K a) H1) ∨ ∃ z, x = .str z ∧ R (Its z) H1
theorem pi_seq {X : Cx} {tg e : Expr} {te : TE} (he : PE X e te) : PI X tg e (iSeq X.K te) := by
  refine ⟨fun pins s σ H R I h => ?_⟩
  refine thn (he.run pins s σ H _ I h) fun v s1 ⟨x, H1, I1, r1, q1⟩ => ?_
  rcases q1 with ⟨a, e, ⟨xs, hq⟩, q⟩ | ⟨a, e, ⟨xs, hq⟩, q⟩ | ⟨z, e, q⟩
  · subst e
    cases r1
    obtain ⟨its, rv, p, hz⟩ := I1.list hq
    refine wpAny_pyIter_list p.isList ?_
    refine ⟨s1.heap.objs.size, [s1.heap.objs.size], _, _, H1, rfl, I1.kept (t' := s1.toks) fun b o e => Heap.get?_push_of_some _ e, turn_list a _, ⟨_, Heap.get?_push_size _ rfl, rfl, rfl⟩, fun b hb => ?_, q⟩
    have e : b = s1.heap.objs.size := by simpa using hb
    subst e
    exact I1.fpOk (Nat.le_refl _) (I1.hok.fresh (Nat.le_refl _))
  · subst e
    cases r1
    obtain ⟨its, rv, p, hz⟩ := I1.tuple hq
    refine wpAny_pyIter_tuple (show s1.heap.IsTuple a its.toArray from p) ?_
    refine ⟨s1.heap.objs.size, [s1.heap.objs.size], _, _, H1, rfl, I1.kept (t' := s1.toks) fun b o e => Heap.get?_push_of_some _ e, turn_tuple a _, ⟨_, Heap.get?_push_size _ rfl, rfl, rfl⟩, fun b hb => ?_, q⟩
    have e : b = s1.heap.objs.size := by simpa using hb
    subst e
    exact I1.fpOk (Nat.le_refl _) (I1.hok.fresh (Nat.le_refl _))
  · subst e
    obtain ⟨t, rfl⟩ := r1
    cases ha : z.cps.all (· < 128)
    · exact wpAny_pyIter_wide ha (pi_one (tk := s1.toks) I1 _ (turn_str _ z t "str_iterator" (.inr rfl)) ⟨_, Heap.get?_push_size _ rfl, rfl, rfl⟩ q)
    · exact wpAny_pyIter_ascii ha (pi_one (tk := s1.toks) I1 _ (turn_str _ z t "str_ascii_iterator" (.inl rfl)) ⟨_, Heap.get?_push_size _ rfl, rfl, rfl⟩ q)
def itD : D → Option (List D)
  | .lst xs => some xs
  | .tup xs => some xs
  | .str z => some (signs z)
  | _ => none
def rSeq (r : RE) : RI := fun ρ R e => r ρ (fun s ρ' => match s.dat with
  | some x => match itD x with
    | some ds => R ds ρ'
    | none => False
  | none => False) e
def rRange (r : RA) : RI := fun ρ R e => r ρ (fun ss ρ' => match dats ss with
  | some [.int j] => (-(2 ^ 62) ≤ j ∧ j < 2 ^ 62) ∧ R (intsD j.toNat) ρ'
  | _ => False) e
section
variable {G : Gw} {E : XK} {X : Cx} {k : Nat} {gq : Bool} {a b tg : Expr} {es : List Expr} {ta tb : TE} {ra rb : RE} {pos : Pos}
theorem di_seq (c : Cn G E X k gq) (h : DE G E X a ta ra) : DI G E X tg a (iSeq G.W.K ta) (rSeq ra) := ⟨c.K ▸ pi_seq h.p, fun σ H ρ Γ Q R e re hr q o => h.s σ H ρ Γ _ _ e re hr (fun v s ρ' H' r' h' => by
  try dsimp only at h'
  split at h'
  · rename_i x hx
    split at h'
    · rename_i ds hds
      have r2 := r'.dat hx
      cases x with
      | lst xs =>
        have eds : xs = ds := Option.some.inj hds
        subst eds
        have z : At G.W H' _ v (.lst xs) := r2.head
        cases z with
        | lst z1 z2 z3 =>
          obtain ⟨vs, g1, g2⟩ := At.list (.lst z1 z2 z3)
          exact .inl ⟨_, rfl, ⟨vs, g1⟩, q _ _ ρ' [(_, .d (.lst xs))] xs r2 walks_list h'⟩
      | tup xs =>
        have eds : xs = ds := Option.some.inj hds
        subst eds
        have z : At G.W H' _ v (.tup xs) := r2.head
        cases z with
        | tup z1 z3 =>
          obtain ⟨vs, g1, g2⟩ := At.tuple (.tup z1 z3)
          exact .inr (.inl ⟨_, rfl, ⟨vs, g1⟩, q _ _ ρ' [(_, .d (.tup xs))] xs r2 walks_tup h'⟩)
      | str z =>
        have eds : signs z = ds := Option.some.inj hds
        subst eds
        have zz : At G.W H' _ v (.str z) := r2.head
        cases zz with
        | str _ hz => exact .inr (.inr ⟨z, rfl, q _ _ ρ' [] (signs z) r2.drop (walks_str hz) h'⟩)
      | non => cases hds
      | bl _ => cases hds
      | int _ => cases hds
      | dk _ _ => cases hds
      | dt _ _ => cases hds
      | ins _ _ _ _ => cases hds
      | rf _ => cases hds
      | scr _ => cases hds
      | exc _ _ _ _ _ => cases hds
    · exact False.elim h'
  · exact False.elim h') o⟩
theorem di_range {p : Pos} {t : TA} {r : RA} (hm : X.mg "range" = none) (h : DA G E X [a] t r) (hg : Gl X "range" := by rfl) (hs : starEach [a] X.env = [(false, eval a X.env)] := by rfl) : DI G E X tg (.Call (.Name "range" p) [a] [] pos) (iRng1 t) (rRange r) := ⟨pi_range1 hg hm h.p hs, fun σ H ρ Γ Q R e re hr q o => h.s σ H ρ Γ _ _ e re hr (fun vs ss ρ' H' hl r' h' => by
  try dsimp only at h'
  split at h'
  · rename_i j hd
    obtain ⟨rt, ha, hn⟩ := Rep.dats' hl hd r'
    cases ha with
    | cons a1 a2 =>
      cases a1
      cases a2
      exact ⟨j, rfl, h'.1.1, h'.1.2, q _ _ ρ' [] _ rt walks_range h'.2⟩
  · exact False.elim h') o⟩
end
/-! ### for -/
def loopR (g : RG) (b : RS) (d : Rd) : List D → Env → Prop
  | [], ρ => d.nx ρ
  | x :: xs, ρ => g (.d x) ρ fun ρ1 => b { d with nx := loopR g b d xs, ct := loopR g b d xs, bk := d.nx } ρ1
def sFor (r : RI) (g : RG) (b : RS) : RS := fun d ρ => r ρ (fun ds ρ' => loopR g b d ds ρ') d.ex
theorem Rep.low' {W : Wd} {σ : L2.St} {H : Hp} {ρ : Env} : ∀ {Γ1 Γ : List It}, Rep W σ H ρ (Γ1 ++ Γ) → Rep W σ H ρ Γ
  | [], _, r => r
  | p :: Γ1, Γ, r => Rep.low' (Γ1 := Γ1) (Rep.drop (p := p) r)
theorem Rep.lowH {W : Wd} {σ : L2.St} {H : Hp} {ρ : Env} {Γ1 Γ : List It} {p : It} (r : Rep W σ H ρ (p :: (Γ1 ++ Γ))) : Rep W σ H ρ (p :: Γ) := by
  have r2 : Rep W σ H ρ (Γ1 ++ p :: Γ) := r.perm (perm_mid _ _ _).symm
  exact r2.low'
section
variable {G : Gw} {E : XK} {X : Cx} {k : Nat} {gq : Bool} {tg it : Expr} {body : List Stmt} {sl : List Nat} {wi : TI} {ri : RI} {t : TG} {g : RG} {tb : TS} {rb : RS} {pos : Pos}
theorem ds_for (c : Cn G E X k gq) (hi : DI G E X tg it wi ri) (hg : DG G X tg sl t g) (hb : DSs G E X body tb rb) (hs : ∀ x, foldedSetIterable it X.env x = pure x := by intro _; rfl) : DS G E X (.For tg it body [] pos) (tFor wi t tb) (sFor ri g rb) := ⟨ps_for c.po c.calm hi.p hg.p hb.p hs, fun σ H ρ Γ D d re hr o => hi.s σ H ρ Γ _ _ d.ex re hr (fun J H1 ρ1 Γ1 ds r1 wk h1 => by
  obtain ⟨P, Y, w, hP, hY⟩ := wk
  refine for_it w (fun i σ' H' => ∃ ρ', Rep G.W σ' H' ρ' (Γ1 ++ Γ) ∧ loopR g rb d (ds.drop i) ρ') ⟨ρ1, r1, h1⟩ (fun i σ' H' _ ⟨ρ', r', _⟩ => hP H' (slots σ' ρ' ++ Γ) (r'.hold.perm ?_)) ?_ ?_
  · rw [← List.append_assoc, ← List.append_assoc]
    exact List.perm_append_comm.append_right Γ
  · rintro i x σ2 H2 H3 hi2 ⟨ρ2, r2, h2⟩ hy
    have hd : ds[i]? = some ds[i] := List.getElem?_eq_getElem hi2
    rw [List.drop_eq_getElem_cons hi2] at h2
    have pm : (slots σ2 ρ2 ++ (Γ1 ++ Γ)).Perm (Γ1 ++ (slots σ2 ρ2 ++ Γ)) := by
      rw [← List.append_assoc, ← List.append_assoc]
      exact List.perm_append_comm.append_right Γ
    have h3 := hY i H2 x H3 (slots σ2 ρ2 ++ Γ) _ hd (r2.hold.perm pm) hy
    have r3 : Rep G.W σ2 H3 ρ2 ((x, .d ds[i]) :: (Γ1 ++ Γ)) := ⟨r2.len, r2.hs, h3.perm ((pm.symm.cons _).trans (perm_mid _ _ _).symm)⟩
    refine hg.s x _ σ2 H3 ρ2 (Γ1 ++ Γ) _ _ r3 h2 fun σ4 ρ4 r4 _ _ h4 => ?_
    refine hb.s σ4 H3 ρ4 (Γ1 ++ Γ) _ _ r4 h4 ⟨fun σ5 H5 ρ5 r5 h5 => ⟨ρ5, r5, h5⟩, fun σ5 H5 ρ5 v s r5 h5 => o.rt _ _ _ _ _ r5.lowH h5, fun σ5 H5 ρ5 r5 h5 => o.nx _ _ _ r5.low' h5, fun σ5 H5 ρ5 r5 h5 => ⟨ρ5, r5, h5⟩, o.ex.app Γ1⟩
  · rintro σ2 H2 ⟨ρ2, r2, h2⟩
    rw [List.drop_length] at h2
    exact o.nx _ _ _ r2.low' h2) o.ex⟩
end
/-! ### [e for x in it if ..] -/
def wipeR (ρ : Env) : List Nat → Env
  | [] => ρ
  | v :: vs => (wipeR ρ vs).set v none
def lcR (vs : List Nat) (g : RG) (tt : RT) (te : RE) (R : List D → Env → Prop) : List D → List D → Env → Prop
  | acc, [], ρ => R acc (wipeR ρ vs)
  | acc, x :: xs, ρ => g (.d x) (wipeR ρ vs) fun ρ1 => tt ρ1 (fun b ρ2 => if b = true then te ρ2 (fun s ρ3 => optP s.dat fun y => lcR vs g tt te R (acc ++ [y]) xs ρ3) (fun _ => False) else lcR vs g tt te R acc xs ρ2) fun _ => False
def rLc (vs : List Nat) (ri : RI) (g : RG) (tt : RT) (te : RE) : RE := fun ρ R e => ri ρ (fun ds ρ' => ds.length < sizeLine ∧ ∀ p, lcR vs g tt te (fun acc ρ2 => R (.m p (.lst acc)) ρ2) [] ds ρ') e
def rYes : RT := fun ρ R _ => R true ρ
structure DTs (G : Gw) (E : XK) (X : Cx) (es : List Expr) (t : TT) (r : RT) : Prop where
  p : PTs X es t
  s : SndT G E t r
theorem dts_nil {G : Gw} {E : XK} {X : Cx} : DTs G E X [] tYes rYes := ⟨pts_nil, fun σ H ρ Γ Q R e r h q o => q _ _ _ r h⟩
theorem dts_one {G : Gw} {E : XK} {X : Cx} {a : Expr} {t : TT} {r : RT} (h : DT G E X a t r) : DTs G E X [a] t r := ⟨pts_one h.p, h.s⟩
theorem wipeR_len (ρ : Env) : ∀ vs : List Nat, (wipeR ρ vs).length = ρ.length
  | [] => rfl
  | v :: vs => by show ((wipeR ρ vs).set v none).length = _; rw [List.length_set, wipeR_len ρ vs]
theorem wipeR_get {ρ : Env} {i : Nat} {s : S} : ∀ {vs : List Nat}, (wipeR ρ vs)[i]? = some (some s) → ρ[i]? = some (some s) ∧ i ∉ vs
  | [], h => ⟨h, by simp⟩
  | v :: vs, h => by
    have h : ((wipeR ρ vs).set v none)[i]? = some (some s) := h
    by_cases e : v = i
    · subst e
      rw [List.getElem?_set] at h
      simp only [if_true] at h
      split at h <;> simp at h
    · rw [List.getElem?_set_ne e] at h
      obtain ⟨h1, h2⟩ := wipeR_get h
      exact ⟨h1, by simp [Ne.symm e, h2]⟩
theorem wipe_get {σ : L2.St} {i : Nat} : ∀ {vs : List Nat}, i ∉ vs → (wipe σ vs)[i]? = σ[i]?
  | [], _ => rfl
  | v :: vs, h => by
    have h1 : v ≠ i := fun e => h (by rw [e]; exact List.mem_cons_self)
    show ((wipe σ vs).set v none)[i]? = _
    rw [List.getElem?_set_ne h1]
    exact wipe_get fun z => h (List.mem_cons_of_mem _ z)
theorem Rep.wipeAll {W : Wd} {σ : L2.St} {H : Hp} {ρ : Env} {Γ : List It} (r : Rep W σ H ρ Γ) : ∀ vs : List Nat, Rep W σ H (wipeR ρ vs) Γ
  | [] => r
  | v :: vs => (r.wipeAll vs).forget v
/-- slots that ρ says nothing of do not matter -/
theorem slots_ext : ∀ {σ σ' : L2.St} {ρ : Env}, σ.length = ρ.length → σ'.length = ρ.length → (∀ (i : Nat) (s : S), ρ[i]? = some (some s) → σ[i]? = σ'[i]?) → slots σ ρ = slots σ' ρ
  | [], [], _, _, _, _ => rfl
  | x :: σ, x' :: σ', y :: ρ, h1, h2, h => by
    have ih := slots_ext (σ := σ) (σ' := σ') (ρ := ρ) (by simpa using h1) (by simpa using h2) (fun i s e => by have := h (i + 1) s (by simpa using e); simpa using this)
    cases y with
    | none => rw [slots_skip, slots_skip, ih]
    | some s =>
      have e := h 0 s rfl
      simp at e
      subst e
      cases x with
      | none => exact ih
      | some v => show (v, s) :: slots σ ρ = (v, s) :: slots σ' ρ; rw [ih]
  | [], _ :: _, [], _, h, _ => by simp at h
  | [], _, _ :: _, h, _, _ => by simp at h
  | _ :: _, _, [], h, _, _ => by simp at h
  | _ :: _, [], _ :: _, _, h, _ => by simp at h
theorem Rep.ext {W : Wd} {σ σ' : L2.St} {H : Hp} {ρ : Env} {Γ : List It} (r : Rep W σ H ρ Γ) (hl : σ'.length = σ.length) (h : ∀ (i : Nat) (s : S), ρ[i]? = some (some s) → σ[i]? = σ'[i]?) : Rep W σ' H ρ Γ := by
  refine ⟨hl.trans r.len, fun i s e => ?_, ?_⟩
  · obtain ⟨v, hv⟩ := r.hs i s e
    exact ⟨v, by rw [← h i s e]; exact hv⟩
  · rw [← slots_ext r.len (hl.trans r.len) h]
    exact r.hold
theorem wipe_len (σ : L2.St) (vs : List Nat) : (wipe σ vs).length = σ.length := wipe_length σ vs
theorem wipe_wipe_get {σ σ2 : L2.St} {vs : List Nat} (e : wipe σ2 vs = wipe σ vs) {i : Nat} (h : i ∉ vs) : σ2[i]? = σ[i]? := by
  rw [← wipe_get (σ := σ2) h, e, wipe_get h]
theorem wipeR_idem (ρ : Env) (vs : List Nat) : wipeR (wipeR ρ vs) vs = wipeR ρ vs := by
  have key : ∀ (ρ : Env) (vs : List Nat) (i : Nat), (wipeR ρ vs)[i]? = if i ∈ vs ∧ i < ρ.length then some none else ρ[i]? := by
    intro ρ vs
    induction vs with
    | nil => intro i; simp [wipeR]
    | cons v vs ih =>
      intro i
      show ((wipeR ρ vs).set v none)[i]? = _
      by_cases e : v = i
      · subst e
        by_cases hl : v < ρ.length
        · rw [List.getElem?_set_self (by rw [wipeR_len]; exact hl), if_pos ⟨List.mem_cons_self, hl⟩]
        · rw [if_neg (fun z => hl z.2), List.getElem?_eq_none (by rw [List.length_set, wipeR_len]; omega), List.getElem?_eq_none (by omega)]
      · rw [List.getElem?_set_ne e, ih i]
        by_cases h : i ∈ vs ∧ i < ρ.length
        · rw [if_pos h, if_pos ⟨List.mem_cons_of_mem _ h.1, h.2⟩]
        · rw [if_neg h, if_neg]
          rintro ⟨h1, h2⟩
          rcases List.mem_cons.mp h1 with z | z
          · exact e z.symm
          · exact h ⟨z, h2⟩
  refine List.ext_getElem? fun i => ?_
  rw [key, wipeR_len, key]
  by_cases h : i ∈ vs ∧ i < ρ.length
  · rw [if_pos h, if_pos h]
  · rw [if_neg h]
theorem lcR_wipe {vs : List Nat} {g : RG} {tt : RT} {te : RE} {R : List D → Env → Prop} : ∀ {acc xs : List D} {ρ : Env}, lcR vs g tt te R acc xs ρ → lcR vs g tt te R acc xs (wipeR ρ vs)
  | acc, [], ρ, h => by
    show R acc (wipeR (wipeR ρ vs) vs)
    rw [wipeR_idem]; exact h
  | acc, x :: xs, ρ, h => by
    unfold lcR at h ⊢
    rw [wipeR_idem]; exact h
theorem wipe_in {σ : L2.St} {i : Nat} : ∀ {vs : List Nat}, i ∈ vs → i < σ.length → (wipe σ vs)[i]? = some none
  | v :: vs, h, hi => by
    show ((wipe σ vs).set v none)[i]? = _
    by_cases e : v = i
    · subst e
      rw [List.getElem?_set_self (by rw [wipe_len]; exact hi)]
    · rw [List.getElem?_set_ne e]
      exact wipe_in ((List.mem_cons.mp h).resolve_left (Ne.symm e)) hi
theorem Rep.toWipe {W : Wd} {σ : L2.St} {H : Hp} {ρ : Env} {Γ : List It} (r : Rep W σ H ρ Γ) (vs : List Nat) : Rep W (wipe σ vs) H (wipeR ρ vs) Γ :=
  (r.wipeAll vs).ext (wipe_len σ vs) fun i s e => (wipe_get (wipeR_get e).2).symm
theorem Rep.unWipe {W : Wd} {σ σ2 : L2.St} {H : Hp} {ρ : Env} {Γ : List It} {vs : List Nat} (r : Rep W σ2 H ρ Γ) (e : wipe σ2 vs = wipe σ vs) : Rep W σ H (wipeR ρ vs) Γ :=
  (r.wipeAll vs).ext (by rw [← wipe_len σ vs, ← e, wipe_len]) fun i s h => wipe_wipe_get e (wipeR_get h).2
section
variable {G : Gw} {E : XK} {X : Cx} {k : Nat} {gq : Bool} {tg it elt : Expr} {ifs : List Expr} {scope : Scope} {own : List (Str × Nat)} {wi : TI} {ri : RI} {t : TG} {g : RG} {tt : TT} {rt : RT} {te : TE} {re : RE} {pos : Pos}
theorem wipe_same {σ σ4 : L2.St} {vs sl : List Nat} (hsl : ∀ i ∈ sl, i ∈ vs) (k : ∀ j : Nat, j ∉ sl → σ4[j]? = (wipe σ vs)[j]?) (hl : σ4.length = (wipe σ vs).length) : wipe σ4 vs = wipe σ vs := by
  refine List.ext_getElem? fun i => ?_
  rw [wipe_len] at hl
  by_cases hi : i ∈ vs
  · by_cases hlt : i < σ.length
    · rw [wipe_in hi hlt, wipe_in hi (by omega)]
    · rw [List.getElem?_eq_none (by rw [wipe_len]; omega), List.getElem?_eq_none (by rw [wipe_len]; omega)]
  · rw [wipe_get hi, k i (fun z => hi (hsl i z))]
theorem snd_lc {vs sl : List Nat} (hsl : ∀ i ∈ sl, i ∈ vs) (hi : SndI G E wi ri) (hg : SndG G sl t g) (ht : SndT G E0 tt rt) (he : SndE G E0 te re) : SndE G E (tLc wi t tt te vs) (rLc vs ri g rt re) := fun σ H ρ Γ Q R e r0 hr q o => hi σ H ρ Γ _ _ e r0 hr (fun J H1 ρ1 Γ1 ds r1 wk h1 => by
  obtain ⟨P, Y, w, hP, hY⟩ := wk
  obtain ⟨hlen, hall⟩ := h1
  intro D nD
  have noX : ∀ Γ', Out G E0 Γ' (fun _ => False) := fun _ _ _ _ _ _ z => z.elim
  refine lc_it w (fun i H' => ∃ ρ' acc, Rep G.W σ H' ρ' ((.ref D, .m D (.lst acc)) :: (Γ1 ++ Γ)) ∧ acc.length ≤ i ∧ lcR vs g rt re (fun acc ρ2 => R (.m D (.lst acc)) ρ2) acc (ds.drop i) ρ') ⟨ρ1, [], ?_, Nat.zero_le _, hall D⟩ (fun i H' _ ⟨ρ', acc, r', _⟩ => hP H' (slots σ ρ' ++ (.ref D, .m D (.lst acc)) :: Γ) (r'.hold.perm ?_)) ?_ ?_
  · exact r1.own nD (same_new nD) ⟨[], upd_same, .nil⟩ fun o e => by rw [upd_same] at e; cases e; exact lst_nc
  · refine List.Perm.trans ?_ (List.Perm.append_right _ (List.perm_append_comm (l₁ := slots σ ρ') (l₂ := Γ1))) |>.trans (by rw [List.append_assoc])
    rw [List.append_assoc]
    exact (perm_mid _ _ _).symm.append_left _
  · rintro i x H2 H3 hi2 ⟨ρ2, acc, r2, hacc, h2⟩ hy
    have hd : ds[i]? = some ds[i] := List.getElem?_eq_getElem hi2
    rw [List.drop_eq_getElem_cons hi2] at h2
    have pm : (slots σ ρ2 ++ (V.ref D, S.m D (.lst acc)) :: (Γ1 ++ Γ)).Perm (Γ1 ++ (slots σ ρ2 ++ (V.ref D, S.m D (.lst acc)) :: Γ)) := by
      refine List.Perm.trans ?_ (List.Perm.append_right _ (List.perm_append_comm (l₁ := slots σ ρ2) (l₂ := Γ1))) |>.trans (by rw [List.append_assoc])
      rw [List.append_assoc]
      exact (perm_mid _ _ _).symm.append_left _
    have h3 := hY i H2 x H3 _ _ hd (r2.hold.perm pm) hy
    have r3 : Rep G.W σ H3 ρ2 ((x, .d ds[i]) :: (V.ref D, S.m D (.lst acc)) :: (Γ1 ++ Γ)) := ⟨r2.len, r2.hs, h3.perm ((pm.symm.cons _).trans (perm_mid _ _ _).symm)⟩
    refine hg x _ _ H3 _ _ _ _ (r3.toWipe vs) h2 fun σ4 ρ4 r4 k4 l4 h4 => ?_
    have w4 : wipe σ4 vs = wipe σ vs := wipe_same hsl k4 l4
    refine ⟨w4, ht σ4 H3 ρ4 _ _ _ _ r4 h4 (fun b ρ5 H5 r5 h5 => ?_) (noX _)⟩
    cases b with
    | false => exact ⟨ρ5 |> (wipeR · vs), acc, r5.unWipe w4, Nat.le_succ_of_le hacc, lcR_wipe h5⟩
    | true =>
      refine he σ4 H5 ρ5 _ _ _ _ r5 h5 (fun v s ρ6 H6 r6 h6 => ?_) (noX _)
      · obtain ⟨y, hy6, h6⟩ := opt_get h6
        have r7 := (r6.dat hy6).unWipe w4
        have r8 := r7.perm (List.Perm.swap _ _ _)
        obtain ⟨_, vs7, e7, a7⟩ := r8.head
        refine ⟨vs7, e7, ?_, wipeR ρ6 vs, acc ++ [y], ?_, by rw [List.length_append]; exact Nat.succ_le_succ hacc, lcR_wipe h6⟩
        · rw [a7.length]; omega
        · have ay : At G.W H6 (owns ((V.ref D, S.m D (.lst acc)) :: (slots σ (wipeR ρ6 vs) ++ (v, .d y) :: (Γ1 ++ Γ)))) v y := by
            have z := r8.hold.at_ (v, .d y) (List.mem_append_right _ (List.mem_cons_of_mem _ List.mem_cons_self))
            exact At.step (step_perm fun b hb => (owns_perm (perm_mid _ _ _)).mem_iff.mpr hb) z
          have o7 : owns ((V.ref D, S.m D (.lst acc)) :: (slots σ (wipeR ρ6 vs) ++ (v, .d y) :: (Γ1 ++ Γ))) = D :: owns (slots σ (wipeR ρ6 vs) ++ (Γ1 ++ Γ)) := by
            show D :: owns (slots σ (wipeR ρ6 vs) ++ (v, S.d y) :: (Γ1 ++ Γ)) = D :: owns (slots σ (wipeR ρ6 vs) ++ (Γ1 ++ Γ))
            rw [owns_app, owns_app]; rfl
          have a8 : AtL G.W H6 (D :: owns (slots σ (wipeR ρ6 vs) ++ (Γ1 ++ Γ))) (vs7 ++ [v]) (acc ++ [y]) := by
            rw [← o7]
            exact a7.app (.cons ay .nil)
          have r9 := r8.drop2
          refine r9.write lst_nc ⟨_, upd_same, AtL.step ⟨fun b o hb e => ?_, fun b hb => .inl hb⟩ a8⟩
          rw [upd_ne (fun z => hb (by rw [z]; exact List.mem_cons_self))]
          exact e
  · rintro H2 ⟨ρ2, acc, r2, _, h2⟩
    rw [List.drop_length] at h2
    exact q _ _ _ _ ((r2.perm ((perm_mid Γ1 Γ _).symm)).low'.wipeAll vs) h2) o
theorem Cn.blk (c : Cn G E X k gq) {s : Shared} {H : Hp} {C : Addr} {cl : List (Str × Addr)} {fp : List Addr} : Cn G E0 (X.blk s H scope (compEnvC scope cl C X.env) fp) k gq :=
  ⟨c.calm, c.K, c.room, c.gd, takesN0, passN, PassesOwn.never, c.nd⟩
theorem Cn.blkq (c : Cn G E X k gq) {s : Shared} {H : Hp} {C : Addr} {cl : List (Str × Addr)} {fp : List Addr} : Cq G (X.blk s H scope (compEnvC scope cl C X.env) fp) := ⟨c.q.K, c.q.un⟩
theorem de_lc {sl : List Nat} (c : Cn G E X k gq) (hi : DI G E X tg it wi ri) (ok : BlkOk X.N X.env.scope scope own)
    (hg : ∀ (s : Shared) (H : Hp) (C : Addr) (cl : List (Str × Addr)) (fp : List Addr), DG G (X.blk s H scope (compEnvC scope cl C X.env) fp) tg sl t g)
    (ht : ∀ (s : Shared) (H : Hp) (C : Addr) (cl : List (Str × Addr)) (fp : List Addr), DTs G E0 (X.blk s H scope (compEnvC scope cl C X.env) fp) ifs tt rt)
    (he : ∀ (s : Shared) (H : Hp) (C : Addr) (cl : List (Str × Addr)) (fp : List Addr), DE G E0 (X.blk s H scope (compEnvC scope cl C X.env) fp) elt te re)
    (hsl : ∀ i ∈ sl, i ∈ own.map (·.2) := by decide) (hs : ∀ x, foldedSetIterable it X.env x = pure x := by intro _; rfl) :
    DE G E X (.ListComp elt [⟨tg, it, ifs, 0⟩] scope pos) (tLc wi t tt te (own.map (·.2))) (rLc (own.map (·.2)) ri g rt re) :=
  ⟨pe_lc c.calm c.nd hi.p ok (fun s H C cl fp => (hg s H C cl fp).p) (fun s H C cl fp => (ht s H C cl fp).p) (fun s H C cl fp => (he s H C cl fp).p) hs,
    snd_lc hsl hi.s (hg X.s_0 X.H_0 0 [] []).s (ht X.s_0 X.H_0 0 [] []).s (he X.s_0 X.H_0 0 [] []).s⟩
/-- name = [..] on one line, the name a local -/
theorem ds_setLc {sl : List Nat} {i : Nat} {y : Str} {py spos : Pos} (c : Cn G E X k gq) (hsw : swapsWith (.ListComp elt [⟨tg, it, ifs, 0⟩] scope pos) (some (.Name y py)) spos.line X.env = pure true) (hi : DI G E X tg it wi ri) (ok : BlkOk X.N X.env.scope scope own)
    (hg : ∀ (s : Shared) (H : Hp) (C : Addr) (cl : List (Str × Addr)) (fp : List Addr), DG G (X.blk s H scope (compEnvC scope cl C X.env) fp) tg sl t g)
    (ht : ∀ (s : Shared) (H : Hp) (C : Addr) (cl : List (Str × Addr)) (fp : List Addr), DTs G E0 (X.blk s H scope (compEnvC scope cl C X.env) fp) ifs tt rt)
    (he : ∀ (s : Shared) (H : Hp) (C : Addr) (cl : List (Str × Addr)) (fp : List Addr), DE G E0 (X.blk s H scope (compEnvC scope cl C X.env) fp) elt te re)
    (hy : X.N[i]? = some y := by rfl) (hyl : X.env.scope.names.lookup y = some .local := by rfl)
    (hsl : ∀ i ∈ sl, i ∈ own.map (·.2) := by decide) (hs : ∀ x, foldedSetIterable it X.env x = pure x := by intro _; rfl) :
    DS G E X (.Assign [.Name y py] (.ListComp elt [⟨tg, it, ifs, 0⟩] scope pos) spos) (tAsg (tLc wi t tt te (own.map (·.2))) (gName i)) (sSet i (rLc (own.map (·.2)) ri g rt re)) :=
  ⟨ps_setLc c.calm c.nd hy hyl hsw hi.p ok (fun s H C cl fp => (hg s H C cl fp).p) (fun s H C cl fp => (ht s H C cl fp).p) (fun s H C cl fp => (he s H C cl fp).p) hs,
    fun σ H ρ Γ D d re0 hr o => snd_lc hsl hi.s (hg X.s_0 X.H_0 0 [] []).s (ht X.s_0 X.H_0 0 [] []).s (he X.s_0 X.H_0 0 [] []).s σ H ρ Γ _ _ d.ex re0 hr (fun v s ρ' H' r' h' => o.nx _ _ _ (r'.set h'.1) h'.2) o.ex⟩
end
/-! ### loops by what holds between their turns -/
theorem lcR_ind {vs : List Nat} {g : RG} {tt : RT} {te : RE} {R : List D → Env → Prop} {ds : List D} {ρ : Env} (I : List D → List D → Env → Prop) (h0 : I [] [] ρ)
    (turn : ∀ (K : List D → Env → Prop) done x rest acc ρ, ds = done ++ x :: rest → I done acc ρ → (∀ acc' ρ', I (done ++ [x]) acc' ρ' → K acc' ρ') → g (.d x) (wipeR ρ vs) fun ρ1 => tt ρ1 (fun b ρ2 => if b = true then te ρ2 (fun s ρ3 => optP s.dat fun y => K (acc ++ [y]) ρ3) (fun _ => False) else K acc ρ2) fun _ => False)
    (fin : ∀ acc ρ, I ds acc ρ → R acc (wipeR ρ vs)) : lcR vs g tt te R [] ds ρ := by
  have key : ∀ rest done acc ρ, ds = done ++ rest → I done acc ρ → lcR vs g tt te R acc rest ρ := by
    intro rest
    induction rest with
    | nil =>
      intro done acc ρ e hI
      rw [List.append_nil] at e
      subst e
      exact fin acc ρ hI
    | cons x rest ih =>
      intro done acc ρ e hI
      exact turn (fun acc ρ => lcR vs g tt te R acc rest ρ) done x rest acc ρ e hI fun acc' ρ' h => ih (done ++ [x]) acc' ρ' (by rw [e, List.append_assoc]; rfl) h
  exact key ds [] [] ρ rfl h0
theorem loopR_ind {g : RG} {b : RS} {d : Rd} {ds : List D} {ρ : Env} (I : List D → Env → Prop) (h0 : I [] ρ)
    (turn : ∀ (K : Env → Prop) done x rest ρ, ds = done ++ x :: rest → I done ρ → (∀ ρ', I (done ++ [x]) ρ' → K ρ') → g (.d x) ρ fun ρ1 => b { d with nx := K, ct := K, bk := d.nx } ρ1)
    (fin : ∀ ρ, I ds ρ → d.nx ρ) : loopR g b d ds ρ := by
  have key : ∀ rest done ρ, ds = done ++ rest → I done ρ → loopR g b d rest ρ := by
    intro rest
    induction rest with
    | nil =>
      intro done ρ e hI
      rw [List.append_nil] at e
      subst e
      exact fin ρ hI
    | cons x rest ih =>
      intro done ρ e hI
      exact turn (loopR g b d rest) done x rest ρ e hI fun ρ' h => ih (done ++ [x]) ρ' (by rw [e, List.append_assoc]; rfl) h
  exact key ds [] ρ rfl h0
end QL
set_option Elab.async false
set_option linter.all false
set_option maxRecDepth 100000
set_option maxHeartbeats 4000000
namespace QL
open PySem L2
open PySem.W (Frag)
theorem perm3 (A B C : List It) : (A ++ (B ++ C)).Perm (B ++ (A ++ C)) := by
  rw [← List.append_assoc, ← List.append_assoc]
  exact List.perm_append_comm.append_right C
/-! ### defs -/
def opair (p : Addr × M) : It := (.ref p.1, .m p.1 p.2)
def own2 : Option S → Option (Addr × M)
  | some (.m a x) => some (a, x)
  | _ => none
def ownsOf (ρ : Env) (n : Nat) : List (Addr × M) := (ρ.take n).filterMap own2
abbrev PSp := List S → (S → List (Addr × M) → Prop) → (XD → Prop) → Prop
def toSp (G : Gw) (n : Nat) (sp : PSp) : Sp := fun vs H Q E => ∃ ss Γ R e, vs.length = ss.length ∧ vs.length = n ∧ Hold G.W H (vs.zip ss ++ Γ) ∧ sp ss R e ∧
  (∀ v s B H', Hold G.W H' ((v, s) :: (B.map opair ++ Γ)) → R s B → Q v H') ∧ Out G E Γ e
theorem toSp_len {G : Gw} {n : Nat} {sp : PSp} : ∀ vs H Q E, toSp G n sp vs H Q E → vs.length = n := fun _ _ _ _ ⟨_, _, _, _, _, h, _⟩ => h
theorem Hold.sub {W : Wd} {H : Hp} {I J : List It} (s : J.Sublist I) (h : Hold W H I) : Hold W H J :=
  have so : (owns J).Sublist (owns I) := s.filterMap _
  ⟨h.nd.sublist so, fun q hq => (h.at_ q (s.subset hq)).step (step_perm fun b hb => so.subset hb) (fun _ _ _ _ z => z), h.tb, fun b hb => h.nt b (so.subset hb)⟩
/-- what a def hands back of what it was lent -/
theorem back_sub {W : Wd} {H : Hp} : ∀ {σ : L2.St} {ρ : Env} (n : Nat) {O : List Addr}, σ.length = ρ.length → (∀ (i : Nat) (s : S), ρ[i]? = some (some s) → ∃ v : V, σ[i]? = some (some v)) → (∀ p ∈ slots σ ρ, SAt W H O p.1 p.2) → ((ownsOf ρ n).map opair).Sublist (slots σ ρ)
  | _, [], n, _, _, _, _ => by
    unfold ownsOf; rw [List.take_nil]; exact List.nil_sublist _
  | σ, ρ, 0, _, _, _, _ => by
    unfold ownsOf; rw [List.take_zero]; exact List.nil_sublist _
  | x :: σ, y :: ρ, n + 1, O, hl, hs, hat => by
    have hl' : σ.length = ρ.length := by simpa using hl
    have hs' : ∀ (i : Nat) (s : S), ρ[i]? = some (some s) → ∃ v : V, σ[i]? = some (some v) := fun i s e => by
      have := hs (i + 1) s (by simpa using e)
      simpa using this
    have e0 : ownsOf (y :: ρ) (n + 1) = (own2 y).toList ++ ownsOf ρ n := by
      unfold ownsOf
      rw [List.take_succ_cons, List.filterMap_cons]
      cases own2 y <;> rfl
    rw [e0]
    cases y with
    | none =>
      rw [slots_skip] at hat ⊢
      exact back_sub n hl' hs' hat
    | some s =>
      obtain ⟨v, hv⟩ := hs 0 s rfl
      simp at hv
      subst hv
      have hat' : ∀ p ∈ slots σ ρ, SAt W H O p.1 p.2 := fun p hp => hat p (List.mem_cons_of_mem _ hp)
      have ih := back_sub n hl' hs' hat'
      cases s with
      | d x => exact ih.cons _
      | m a x =>
        have z := hat (v, .m a x) List.mem_cons_self
        have ev : v = .ref a := z.1
        subst ev
        exact ih.cons_cons _
  | [], _ :: _, _, _, h, _, _ => by simp at h
def startR (ss : List S) (n : Nat) : Env := ss.map some ++ List.replicate (n - ss.length) none
theorem slots_none : ∀ (σ : L2.St) (n : Nat), slots σ (List.replicate n none) = []
  | [], n => by cases n <;> rfl
  | x :: σ, 0 => by cases x <;> rfl
  | x :: σ, n + 1 => by rw [List.replicate_succ, slots_skip, slots_none σ n]
theorem slots_start : ∀ {vs : List V} {ss : List S} (a b : Nat), vs.length = ss.length → slots (vs.map some ++ List.replicate a none) (ss.map some ++ List.replicate b none) = vs.zip ss
  | [], [], a, b, _ => slots_none _ b
  | v :: vs, s :: ss, a, b, h => by
    show (v, s) :: slots (vs.map some ++ List.replicate a none) (ss.map some ++ List.replicate b none) = (v, s) :: vs.zip ss
    rw [slots_start a b (by simpa using h)]
  | [], _ :: _, _, _, h => by simp at h
  | _ :: _, [], _, _, h => by simp at h
theorem rep_start {W : Wd} {H : Hp} {vs : List V} {ss : List S} {Γ : List It} {N : List Str} (hl : vs.length = ss.length) (hn : vs.length ≤ N.length) (h : Hold W H (vs.zip ss ++ Γ)) : Rep W (L2.start N vs) H (startR ss N.length) Γ := by
  refine ⟨?_, fun i s e => ?_, ?_⟩
  · unfold L2.start startR
    rw [List.length_append, List.length_append, List.length_map, List.length_map, List.length_replicate, List.length_replicate, hl]
  · unfold startR at e
    by_cases hi : i < ss.length
    · have hv : i < vs.length := by omega
      refine ⟨vs[i], ?_⟩
      unfold L2.start
      rw [List.getElem?_append_left (by rw [List.length_map]; exact hv), List.getElem?_map, List.getElem?_eq_getElem hv]
      rfl
    · rw [List.getElem?_append_right (by rw [List.length_map]; omega), List.getElem?_replicate] at e
      split at e <;> simp at e
  · unfold L2.start startR
    rw [slots_start _ _ hl]
    exact h
/-- the ends of a def's body -/
def defEnds (n : Nat) (R : S → List (Addr × M) → Prop) (e : XD → Prop) : Rd where
  nx := fun ρ => R (.d .non) (ownsOf ρ n)
  rt := fun s ρ => R s (ownsOf ρ n)
  ex := e
section
variable {P : Program} {w : World} {mg : Str → Option Value} {base : Heap} {G : Gw} {k n : Nat} {f : Addr} {fd : FuncData} {ps : List Str} {sp : PSp}
theorem hold_back {W : Wd} {σ : L2.St} {H : Hp} {ρ : Env} {Γ : List It} {p : It} (r : Rep W σ H ρ (p :: Γ)) (n : Nat) : Hold W H (p :: ((ownsOf ρ n).map opair ++ Γ)) := by
  have h := r.hold.perm (perm_mid _ _ _)
  refine h.sub (List.Sublist.cons_cons _ (List.Sublist.append_right (back_sub (W := W) (H := H) (O := owns (slots σ ρ ++ p :: Γ)) n r.len r.hs fun q hq => ?_) _))
  exact r.hold.at_ q (List.mem_append_left _ hq)
theorem body_pure {x qual : Str} {st : Stmt} {N : List Str} {gq : Bool} {cdv : Value} {A : Around} {outer : List PySem.Env} {s : Shared} {H : Hp} {vs : List V} {Q : VK} {E : XK} (S : FnScope N ps (defScope st)) (hn : ps.length ≤ N.length) (hr : Room k (A.deeper (PyProof.Rows.envOfC qual (defScope st) s.heap.objs.size f cdv))) (hg : gq = true → (A.deeper (PyProof.Rows.envOfC qual (defScope st) s.heap.objs.size f cdv)).guards = some [])
    (body : Cn G E (cxOf (L2N.CX P w) P w G.W.K mg base N qual (defScope st) f cdv A outer s H E) k gq →
      ∃ t r, DSs G E (cxOf (L2N.CX P w) P w G.W.K mg base N qual (defScope st) f cdv A outer s H E) (defBody st) t r ∧ ∀ ss R e, sp ss R e → ss.length = ps.length → r (defEnds ps.length R e) (startR ss N.length)) (hsp : toSp G ps.length sp vs H Q E) :
    ∃ t, PSs (cxOf (L2N.CX P w) P w G.W.K mg base N qual (defScope st) f cdv A outer s H E) (defBody st) t ∧ t { nx := fun _ H' => Q .non H', rt := Q } (L2.start N vs) H := by
  obtain ⟨ss, Γ, R, e, h1, h2, h3, h4, h5, h6⟩ := hsp
  have tk : L2N.Takes (cxOf (L2N.CX P w) P w G.W.K mg base N qual (defScope st) f cdv A outer s H E) (fun cls d _ H => E cls d H) := L2N.takes_of rfl rfl rfl rfl
  obtain ⟨t, r, hd, hb⟩ := body ⟨rfl, rfl, hr, hg, tk, L2N.passes_call tk (fun _ _ _ _ z => z), passes_of rfl, S.nd⟩
  refine ⟨t, hd.p, ?_⟩
  have r0 := rep_start (N := N) h1 (by omega) h3
  refine hd.s _ _ _ Γ _ _ r0 (hb ss R e h4 (by omega)) ⟨fun σ' H' ρ' r' h' => h5 _ _ _ _ (hold_back (r'.data (v := .non) .non) _) h', fun σ' H' ρ' v z r' h' => h5 _ _ _ _ (hold_back r' _) h', fun _ _ _ _ z => z.elim, fun _ _ _ _ z => z.elim, h6⟩
/-- THE RULE for a def, without the heap -/
theorem fn_pure {x qual : Str} {st : Stmt} {N : List Str} (F : Fun G.W.K x qual st f fd) (S : FnScope N ps (defScope st)) (hn : ps.length ≤ N.length)
    (body : ∀ (cdv : Value) (A : Around) (outer : List PySem.Env) (s : Shared) (H : Hp) (E : XK), Cn G E (cxOf (L2N.CX P w) P w G.W.K mg base N qual (defScope st) f cdv A outer s H E) k false →
      ∃ t r, DSs G E (cxOf (L2N.CX P w) P w G.W.K mg base N qual (defScope st) f cdv A outer s H E) (defBody st) t r ∧ ∀ ss R e, sp ss R e → ss.length = ps.length → r (defEnds ps.length R e) (startR ss N.length)) :
    FnOk P w G.W.K mg base (L2N.CX P w) (k + 1) f fd ps (toSp G ps.length sp) := by
  obtain ⟨oc, od, kV, doc, pm, an, cdv, ct, osl, rfl, lk, hcd⟩ := F.ex
  exact fn_of lk hcd S toSp_len fun A outer s H vs Q E hr hsp => body_pure (x := x) S hn hr (fun z => by cases z) (body cdv A outer s H E) hsp
/-- .. of a def that calls repr -/
theorem fn_pureG {x qual : Str} {st : Stmt} {N : List Str} (F : Fun G.W.K x qual st f fd) (S : FnScope N ps (defScope st)) (hn : ps.length ≤ N.length)
    (body : ∀ (cdv : Value) (A : Around) (outer : List PySem.Env) (s : Shared) (H : Hp) (E : XK), Cn G E (cxOf (L2N.CX P w) P w G.W.K mg base N qual (defScope st) f cdv A outer s H E) k true →
      ∃ t r, DSs G E (cxOf (L2N.CX P w) P w G.W.K mg base N qual (defScope st) f cdv A outer s H E) (defBody st) t r ∧ ∀ ss R e, sp ss R e → ss.length = ps.length → r (defEnds ps.length R e) (startR ss N.length)) :
    FnOkG P w G.W.K mg base (L2N.CX P w) (k + 1) f fd ps (toSp G ps.length sp) := by
  obtain ⟨oc, od, kV, doc, pm, an, cdv, ct, osl, rfl, lk, hcd⟩ := F.ex
  exact fn_ofG lk hcd S toSp_len fun A outer s H vs Q E hr hg hsp => body_pure (x := x) S hn hr (fun _ => hg) (body cdv A outer s H E) hsp
end
/-! ### calls of defs -/
def rCall (n : Nat) (sp : PSp) (r : RA) : RE := fun ρ R e => r ρ (fun ss ρ' => match dats ss with
  | some ds => ds.length = n ∧ sp (ds.map S.d) (fun s _ => R s ρ') e
  | none => False) e
/-- f(x, ..): what stands in x is lent -/
def rCallS (n i : Nat) (sp : PSp) (r : RA) : RE := fun ρ R e => (∃ s, ρ[i]? = some (some s)) ∧ r ρ (fun ss ρ1 => match dats ss with
  | some ds => match ρ1[i]? with
    | some (some (.m a m)) => ds.length + 1 = n ∧ sp (.m a m :: ds.map S.d) (fun s B => ∃ y, B = [(a, y)] ∧ R s (ρ1.set i (some (.m a y)))) e
    | _ => False
  | none => False) e
section
variable {G : Gw} {E : XK} {X : Cx} {k n : Nat} {gq : Bool} {f : Addr} {fd : FuncData} {ps : List Str} {sp : PSp} {x : Str} {a : Expr} {es : List Expr} {t : TA} {r : RA} {p pos : Pos}
theorem slots_out {W : Wd} {σ : L2.St} {H H' : Hp} {ρ : Env} {Γ : List It} {q : It} {B : List It} (re : Rep W σ H ρ Γ) (h : Hold W H' (q :: (B ++ (slots σ ρ ++ Γ)))) : Rep W σ H' ρ (q :: Γ) :=
  ⟨re.len, re.hs, (h.sub (List.Sublist.cons_cons _ (List.sublist_append_right _ _))).perm (perm_mid _ _ _).symm⟩
theorem snd_call (hs : SndA G E t r) : SndE G E (tCall (toSp G n sp) [] E t) (rCall n sp r) := fun σ H ρ Γ Q R e re hr q o => hs σ H ρ Γ _ _ e re hr (fun vs ss ρ' H' hl r' h' => by
  try dsimp only at h'
  split at h'
  · rename_i ds hd
    obtain ⟨hn, h'⟩ := h'
    obtain ⟨r1, hlen⟩ := Rep.dats hl hd r'
    have rt : Rep G.W σ H' ρ' Γ := r1.tailD
    rw [List.append_nil]
    exact ⟨ds.map S.d, slots σ ρ' ++ Γ, fun s _ => R s ρ', e, by rw [List.length_map, hlen], by omega, r1.hold.perm (perm3 _ _ _), h', fun v s B H2 h2 hR => q v s ρ' H2 (slots_out rt h2) hR, o.app _⟩
  · exact False.elim h') o
theorem de_call (c : Cn G E X k gq) (F : FnOk X.prog X.w X.K X.mg X.base (L2N.CX X.prog X.w) k f fd ps (toSp G n sp)) (hm : X.mg x = some (.ref f)) (hk : PySem.W.keepIn X.K (.ref f) = true) (hb : Binds X.K fd ps []) (h : DA G E X (a :: es) t r) (hg : Gl X x := by rfl) (hdb : (x == ("__debug__" : Str)) = false := by decide)
    (he : starEach (a :: es) X.env = (false, eval a X.env) :: starEach es X.env := by rfl) (hpl : (backTo pos (starEach es X.env)).any (·.1) = false := by rfl) :
    DE G E X (.Call (.Name x p) (a :: es) [] pos) (tCall (toSp G n sp) [] E t) (rCall n sp r) := ⟨pe_call F c.room hg hm hk hb .nil c.ps h.p hdb he hpl, snd_call h.s⟩
theorem de_callG (c : Cn G E X k true) (F : FnOkG X.prog X.w X.K X.mg X.base (L2N.CX X.prog X.w) k f fd ps (toSp G n sp)) (hm : X.mg x = some (.ref f)) (hk : PySem.W.keepIn X.K (.ref f) = true) (hb : Binds X.K fd ps []) (h : DA G E X (a :: es) t r) (hg : Gl X x := by rfl) (hdb : (x == ("__debug__" : Str)) = false := by decide)
    (he : starEach (a :: es) X.env = (false, eval a X.env) :: starEach es X.env := by rfl) (hpl : (backTo pos (starEach es X.env)).any (·.1) = false := by rfl) :
    DE G E X (.Call (.Name x p) (a :: es) [] pos) (tCall (toSp G n sp) [] E t) (rCall n sp r) := ⟨pe_callG F c.room (c.gd rfl) hg hm hk hb .nil c.ps h.p hdb he hpl, snd_call h.s⟩
theorem snd_callS {i : Nat} (hs : SndA G E t r) : SndE G E (tCall (toSp G n sp) [] E (tCons (tVar i) t)) (rCallS n i sp r) := fun σ H ρ Γ Q R e re hr q o => by
  obtain ⟨⟨s0, h0⟩, hr⟩ := hr
  obtain ⟨v0, hv0⟩ := re.hs i s0 h0
  refine ⟨v0, hv0, ?_⟩
  refine hs σ H ρ Γ _ _ e re hr (fun vs ss ρ1 H1 hl r0 h1 => ?_) o
  try dsimp only at h1
  split at h1
  · rename_i ds hd
    obtain ⟨r1, hlen⟩ := Rep.dats hl hd r0
    split at h1
    · rename_i a m hm
      obtain ⟨hn, h1⟩ := h1
      obtain ⟨v, hv, r2⟩ := r1.lend hm
      have ev : v = .ref a := r2.head.1
      rw [hv0] at hv
      cases hv
      subst ev
      have r3 : Rep G.W σ H1 (ρ1.set i none) Γ := (Rep.drop r2).tailD
      rw [List.append_nil]
      refine ⟨.m a m :: ds.map S.d, slots σ (ρ1.set i none) ++ Γ, _, e, by rw [List.length_cons, List.length_cons, List.length_map, hlen], by rw [List.length_cons]; omega, r2.hold.perm ?_, h1, fun v s B H2 h2 hR => ?_, o.app _⟩
      · show (slots σ (ρ1.set i none) ++ ((V.ref a, S.m a m) :: (vs.zip (ds.map S.d) ++ Γ))).Perm (((V.ref a, S.m a m) :: vs.zip (ds.map S.d)) ++ (slots σ (ρ1.set i none) ++ Γ))
        refine (perm_mid _ _ _).trans ?_
        exact List.Perm.cons _ (perm3 _ _ _)
      · obtain ⟨y, rfl, hR⟩ := hR
        have hi : i < ρ1.length := (List.getElem?_eq_some_iff.mp hm).1
        have r4 : Rep G.W σ H2 (ρ1.set i none) ((V.ref a, S.m a y) :: (v, s) :: Γ) := by
          refine ⟨r3.len, r3.hs, h2.perm ?_⟩
          show ((v, s) :: (V.ref a, S.m a y) :: (slots σ (ρ1.set i none) ++ Γ)).Perm (slots σ (ρ1.set i none) ++ (V.ref a, S.m a y) :: (v, s) :: Γ)
          refine (List.Perm.swap _ _ _).trans ?_
          exact ((perm_mid _ _ _).symm.cons _).trans (perm_mid _ _ _).symm
        have r5 := r4.give hv0 (List.getElem?_set_self hi)
        rw [List.set_set] at r5
        exact q v s _ H2 r5 hR
    · exact False.elim h1
  · exact False.elim h1
theorem de_callS (c : Cn G E X k gq) (i : Nat) {y : Str} {py : Pos} (F : FnOk X.prog X.w X.K X.mg X.base (L2N.CX X.prog X.w) k f fd ps (toSp G n sp)) (hm : X.mg x = some (.ref f)) (hk : PySem.W.keepIn X.K (.ref f) = true) (hb : Binds X.K fd ps []) (h : DA G E X es t r)
    (hN : X.N[i]? = some y := by rfl) (hv : Vis X.env.scope y := by first | exact Or.inl rfl | exact Or.inr (Or.inl rfl) | exact Or.inr (Or.inr rfl)) (hg : Gl X x := by rfl) (hdb : (x == ("__debug__" : Str)) = false := by decide) (hd : (y == ("__debug__" : Str)) = false := by decide) (hcd : (y == ("__classdict__" : Str)) = false := by decide)
    (he : starEach (.Name y py :: es) X.env = (false, eval (.Name y py) X.env) :: starEach es X.env := by rfl) (hpl : (backTo pos (starEach es X.env)).any (·.1) = false := by rfl) :
    DE G E X (.Call (.Name x p) (.Name y py :: es) [] pos) (tCall (toSp G n sp) [] E (tCons (tVar i) t)) (rCallS n i sp r) := ⟨pe_call F c.room hg hm hk hb .nil c.ps (pa_cons (pe_var hN hv hd hcd) h.p he) hdb he hpl, snd_callS h.s⟩
theorem de_callSG (c : Cn G E X k true) (i : Nat) {y : Str} {py : Pos} (F : FnOkG X.prog X.w X.K X.mg X.base (L2N.CX X.prog X.w) k f fd ps (toSp G n sp)) (hm : X.mg x = some (.ref f)) (hk : PySem.W.keepIn X.K (.ref f) = true) (hb : Binds X.K fd ps []) (h : DA G E X es t r)
    (hN : X.N[i]? = some y := by rfl) (hv : Vis X.env.scope y := by first | exact Or.inl rfl | exact Or.inr (Or.inl rfl) | exact Or.inr (Or.inr rfl)) (hg : Gl X x := by rfl) (hdb : (x == ("__debug__" : Str)) = false := by decide) (hd : (y == ("__debug__" : Str)) = false := by decide) (hcd : (y == ("__classdict__" : Str)) = false := by decide)
    (he : starEach (.Name y py :: es) X.env = (false, eval (.Name y py) X.env) :: starEach es X.env := by rfl) (hpl : (backTo pos (starEach es X.env)).any (·.1) = false := by rfl) :
    DE G E X (.Call (.Name x p) (.Name y py :: es) [] pos) (tCall (toSp G n sp) [] E (tCons (tVar i) t)) (rCallS n i sp r) := ⟨pe_callG F c.room (c.gd rfl) hg hm hk hb .nil c.ps (pa_cons (pe_var hN hv hd hcd) h.p he) hdb he hpl, snd_callS h.s⟩
end
end QL
set_option Elab.async false
set_option linter.all false
set_option maxRecDepth 100000
set_option maxHeartbeats 4000000
namespace QL
open PySem L2
open PySem.W (Frag)
/-! ### plain data: none, truths, numbers, texts, tuples and lists of such -/
mutual
def toP : D → PyData
  | .non => .none
  | .bl b => .bool b
  | .int i => .int i
  | .str z => .str z
  | .tup xs => .tuple (toPs xs)
  | .lst xs => .list (toPs xs)
  | .dk _ _ => .none
  | .dt _ _ => .none
  | .ins _ _ _ _ => .none
  | .rf _ => .none
  | .scr _ => .none
  | .exc _ _ _ _ _ => .none
def toPs : List D → List PyData
  | [] => []
  | x :: xs => toP x :: toPs xs
end
mutual
def plD : D → Bool
  | .non => true
  | .bl _ => true
  | .int _ => true
  | .str _ => true
  | .tup xs => plDs xs
  | .lst xs => plDs xs
  | .dk _ _ => false
  | .dt _ _ => false
  | .ins _ _ _ _ => false
  | .rf _ => false
  | .scr _ => false
  | .exc _ _ _ _ _ => false
def plDs : List D → Bool
  | [] => true
  | x :: xs => plD x && plDs xs
end
mutual
theorem At.dp {W : Wd} {H : Hp} {O : List Addr} : ∀ {v : V} {d : D}, At W H O v d → plD d = true → Dp W.K H v (toP d)
  | _, _, .non, _ => .non
  | _, _, .bl b, _ => .bl b
  | _, _, .int i, _ => .int i
  | _, _, .str z _, _ => .str z
  | _, _, .tup h t, p => by
    rcases h with h | ⟨rfl, h⟩
    · exact .tup (.inl (.inl h.1)) (AtL.dp t p)
    · exact .tup (h H) (AtL.dp t p)
  | _, _, .lst h _ t, p => by
    exact .lst (.inl (.inl h)) (AtL.dp t p)
  | _, _, .dk _ _ _ _, p => by cases p
  | _, _, .dt _ _ _ _, p => by cases p
  | _, _, .ins _ _ _ _, p => by cases p
  | _, _, .rf _, p => by cases p
  | _, _, .scr _, p => by cases p
  | _, _, .exc _ _ _, p => by cases p
theorem AtL.dp {W : Wd} {H : Hp} {O : List Addr} : ∀ {vs : List V} {ds : List D}, AtL W H O vs ds → plDs ds = true → DpAll W.K H vs (toPs ds)
  | _, _, .nil, _ => .nil
  | _, _, .cons a t, p => by
    have p : (plD _ && plDs _) = true := p
    rw [Bool.and_eq_true] at p
    exact .cons (At.dp a p.1) (AtL.dp t p.2)
end
mutual
theorem At.lay {W : Wd} {H : Hp} {O : List Addr} : ∀ {v : V} {d : D}, At W H O v d → plD d = true → (toP d).canLay0 = true
  | _, _, .non, _ => rfl
  | _, _, .bl b, _ => rfl
  | _, _, .int i, _ => rfl
  | _, _, .str z h, _ => h.2
  | _, _, .tup h t, p => AtL.lay t p
  | _, _, .lst h _ t, p => AtL.lay t p
  | _, _, .dk _ _ _ _, p => by cases p
  | _, _, .dt _ _ _ _, p => by cases p
  | _, _, .ins _ _ _ _, p => by cases p
  | _, _, .rf _, p => by cases p
  | _, _, .scr _, p => by cases p
  | _, _, .exc _ _ _, p => by cases p
theorem AtL.lay {W : Wd} {H : Hp} {O : List Addr} : ∀ {vs : List V} {ds : List D}, AtL W H O vs ds → plDs ds = true → PyData.canLayAll0 (toPs ds) = true
  | _, _, .nil, _ => rfl
  | _, _, .cons a t, p => by
    have p : (plD _ && plDs _) = true := p
    rw [Bool.and_eq_true] at p
    show ((toP _).canLay0 && PyData.canLayAll0 (toPs _)) = true
    rw [At.lay a p.1, AtL.lay t p.2]
    rfl
end
/-- plain and not too deep -/
def okP (d : D) : Prop := plD d = true ∧ (toP d).depth ≤ 64
theorem At.shaped {W : Wd} {H : Hp} {O : List Addr} {v : V} {d : D} (h : At W H O v d) (p : okP d) : SeqAt.shaped (toP d) = true := by
  unfold SeqAt.shaped
  rw [h.lay p.1, decide_eq_true p.2]
  rfl
def eqD (d e : D) : Bool := PyData.eqv (toP d) (toP e)
def gEq (neg : Bool) : G2 := fun d e R => okP d ∧ okP e ∧ R (.d (.bl (eqD d e != neg)))
theorem bneF (b : Bool) : (b != false) = b := by cases b <;> rfl
theorem bneT (b : Bool) : (b != true) = !b := by cases b <;> rfl
section
variable {W : Wd}
theorem v_eq : Val2 W (rEqD W.K) (gEq false) := fun H O x d y e Q R hx hy hg q => ⟨_, _, hx.dp hg.1.1, hy.dp hg.2.1.1, hx.shaped hg.1, hy.shaped hg.2.1, q.here (.bl _) (by have := hg.2.2; rw [bneF] at this; exact this)⟩
theorem v_ne : Val2 W (rNeD W.K) (gEq true) := fun H O x d y e Q R hx hy hg q => ⟨_, _, hx.dp hg.1.1, hy.dp hg.2.1.1, hx.shaped hg.1, hy.shaped hg.2.1, q.here (.bl _) (by have := hg.2.2; rw [bneT] at this; exact this)⟩
/-- keys -/
def keyK : D → Option Key
  | .int i => some (.inl i)
  | .str z => some (.inr z)
  | _ => none
def keyL : List D → Option (List Key)
  | [] => some []
  | x :: xs => match keyK x, keyL xs with
    | some k, some ks => some (k :: ks)
    | _, _ => none
def keyT : D → Option (List Key)
  | .tup (x :: xs) => keyL (x :: xs)
  | _ => none
theorem keyK_at {H : Hp} {O : List Addr} {v : V} {d : D} {k : Key} (h : At W H O v d) (e : keyK d = some k) : v = kV k := by
  cases h <;> cases e <;> rfl
theorem keyL_at {H : Hp} {O : List Addr} : ∀ {vs : List V} {ds : List D} {ks : List Key}, AtL W H O vs ds → keyL ds = some ks → vs = ks.map kV
  | _, _, _, .nil, e => by cases e; rfl
  | _, _, _, .cons a t, e => by
    unfold keyL at e
    split at e
    · rename_i k ks h1 h2
      cases e
      rw [keyK_at a h1, keyL_at t h2]
      rfl
    · cases e
theorem keyT_at {H : Hp} {O : List Addr} {v : V} {d : D} {ks : List Key} (h : At W H O v d) (e : keyT d = some ks) : ∃ b, v = .ref b ∧ H b = some (.tup (ks.map kV)) := by
  cases h with
  | @tup a vs ds h t =>
    cases t with
    | nil => cases e
    | cons a1 t1 =>
      refine ⟨_, rfl, ?_⟩
      rcases h with h | ⟨hn, _⟩
      · rw [← keyL_at (.cons a1 t1) e]
        exact h.1
      · cases hn
  | _ => cases e
/-- what a dict holds -/
def getG {κ α : Type} [DecidableEq κ] (ks : List κ) (xs : List α) (k : κ) : Option α := ((ks.zip xs).find? fun p => decide (p.1 = k)).map (·.2)
theorem getG_at {κ : Type} [DecidableEq κ] {H : Hp} {O : List Addr} : ∀ {ks : List κ} {vs : List V} {ds : List D} (k : κ), AtL W H O vs ds → (∀ d, getG ks ds k = some d → ∃ v, getG ks vs k = some v ∧ At W H O v d) ∧ (getG ks ds k = none → getG ks vs k = none)
  | [], _, _, k, h => ⟨fun d e => by simp [getG] at e, fun _ => rfl⟩
  | _ :: _, _, _, k, .nil => ⟨fun d e => by simp [getG] at e, fun _ => by simp [getG]⟩
  | k0 :: ks, v0 :: vs, d0 :: ds, k, .cons a t => by
    by_cases e : k0 = k
    · subst e
      refine ⟨fun d h => ?_, fun h => ?_⟩
      · simp [getG] at h
        subst h
        exact ⟨_, by simp [getG], a⟩
      · simp [getG] at h
    · obtain ⟨h1, h2⟩ := getG_at (ks := ks) k t
      refine ⟨fun d h => ?_, fun h => ?_⟩
      · have h' : getG ks ds k = some d := by simpa [getG, e] using h
        obtain ⟨v, g1, g2⟩ := h1 d h'
        exact ⟨v, by simpa [getG, e] using g1, g2⟩
      · have h' : getG ks ds k = none := by simpa [getG, e] using h
        simpa [getG, e] using h2 h'
theorem getG_some {κ : Type} [DecidableEq κ] {H : Hp} {O : List Addr} {ks : List κ} {vs : List V} {ds : List D} (k : κ) (h : AtL W H O vs ds) : (valV (ks.zip vs) k).isSome = (getG ks ds k).isSome := by
  obtain ⟨h1, h2⟩ := getG_at (ks := ks) k h
  have e : valV (ks.zip vs) k = getG ks vs k := rfl
  rw [e]
  cases hd : getG ks ds k with
  | none => rw [h2 hd]; rfl
  | some d =>
    obtain ⟨v, g1, _⟩ := h1 d hd
    rw [g1]; rfl
/-- x in xs, a list or a tuple; a sign in a text; a key of a dict -/
def gIn (neg : Bool) : G2 := fun d e R => match e with
  | .lst xs => okP d ∧ okP (.lst xs) ∧ R (.d (.bl ((xs.any fun y => eqD y d) != neg)))
  | .tup xs => okP d ∧ okP (.tup xs) ∧ R (.d (.bl ((xs.any fun y => eqD y d) != neg)))
  | .str z => match d with
    | .str y => match y.cps.toList with
      | [c] => R (.d (.bl (decide (c ∈ z.cps.toList) != neg)))
      | _ => False
    | _ => False
  | .dk ks xs => match keyK d with
    | some k => R (.d (.bl ((getG ks xs k).isSome != neg)))
    | none => False
  | .dt ks xs => match keyT d with
    | some k => R (.d (.bl ((getG ks xs k).isSome != neg)))
    | none => False
  | _ => False
def rIn3 (K : Frag) (neg : Bool) : R2 := fun x y H Q => (∃ d ds, Dp K H x d ∧ Dp K H y (.list ds) ∧ SeqAt.shaped d = true ∧ SeqAt.shaped (.list ds) = true ∧ Q (.bl ((ds.any fun z => PyData.eqv z d) != neg)) H) ∨ rInTD K neg x y H Q ∨
  (∃ (c : Nat) (z : Str), x = .str ⟨#[c]⟩ ∧ y = .str z ∧ Q (.bl (decide (c ∈ z.cps.toList) != neg)) H) ∨ ∃ a o, y = .ref a ∧ DGet H a x o ∧ Q (.bl (o.isSome != neg)) H
theorem toPs_any (d : D) : ∀ xs : List D, ((toPs xs).any fun z => PyData.eqv z (toP d)) = xs.any fun y => eqD y d
  | [] => rfl
  | x :: xs => by
    show (PyData.eqv (toP x) (toP d) || _) = _
    rw [toPs_any d xs]
    rfl
theorem v_in {neg : Bool} : Val2 W (rIn3 W.K neg) (gIn neg) := fun H O x d y e Q R hx hy hg q => by
  cases e with
  | lst xs =>
    obtain ⟨h1, h2, h3⟩ := hg
    refine .inl ⟨_, toPs xs, hx.dp h1.1, hy.dp h2.1, hx.shaped h1, hy.shaped h2, ?_⟩
    rw [toPs_any]
    exact q.here (.bl _) h3
  | tup xs =>
    obtain ⟨h1, h2, h3⟩ := hg
    refine .inr (.inl ⟨_, toPs xs, hx.dp h1.1, hy.dp h2.1, hx.shaped h1, hy.shaped h2, ?_⟩)
    rw [toPs_any]
    exact q.here (.bl _) h3
  | str z =>
    cases d with
    | str y' =>
      have hg : (match y'.cps.toList with
        | [c] => R (.d (.bl (decide (c ∈ z.cps.toList) != neg)))
        | _ => False) := hg
      split at hg
      · rename_i c hc
        cases hx
        cases hy
        refine .inr (.inr (.inl ⟨c, z, ?_, rfl, q.here (.bl _) hg⟩))
        obtain ⟨⟨l⟩⟩ := y'
        have : l = [c] := hc
        subst this
        rfl
      · exact False.elim hg
    | _ => exact False.elim hg
  | dk ks xs =>
    have hg : (match keyK d with
      | some k => R (.d (.bl ((getG ks xs k).isSome != neg)))
      | none => False) := hg
    split at hg
    · rename_i k hk
      cases hy with
      | dk h1 h2 h3 h4 =>
        have e := keyK_at hx hk
        subst e
        refine .inr (.inr (.inr ⟨_, _, rfl, DGet.k h1, ?_⟩))
        rw [getG_some k h4]
        exact q.here (.bl _) hg
    · exact False.elim hg
  | dt ks xs =>
    have hg : (match keyT d with
      | some k => R (.d (.bl ((getG ks xs k).isSome != neg)))
      | none => False) := hg
    split at hg
    · rename_i k hk
      cases hy with
      | dt h1 h2 h3 h4 =>
        obtain ⟨b, rfl, hb⟩ := keyT_at hx hk
        refine .inr (.inr (.inr ⟨_, _, rfl, DGet.t h1 hb, ?_⟩))
        rw [getG_some k h4]
        exact q.here (.bl _) hg
    · exact False.elim hg
  | _ => exact False.elim hg
/-- x is None -/
def gIs (neg : Bool) : G2 := fun d e R => match e with
  | .non => match d with
    | .non => R (.d (.bl (!neg)))
    | _ => R (.d (.bl neg))
  | _ => False
theorem at_non {H : Hp} {O : List Addr} {v : V} {d : D} (h : At W H O v d) : (decide (v = .non)) = match d with
    | .non => true
    | _ => false := by
  cases h <;> rfl
def rIs (neg : Bool) : R2 := fun x y H Q => y = .non ∧ Q (.bl (decide (x = .non) != neg)) H
theorem v_is {neg : Bool} : Val2 W (rIs neg) (gIs neg) := fun H O x d y e Q R hx hy hg q => by
  cases e with
  | non =>
    cases hy
    refine ⟨rfl, ?_⟩
    rw [at_non hx]
    cases d with
    | non => cases neg <;> exact q.here (.bl _) hg
    | _ => cases neg <;> exact q.here (.bl _) hg
  | _ => exact False.elim hg
end
section
variable {G : Gw} {E : XK} {X : Cx} {k : Nat} {gq : Bool} {a b : Expr} {es : List Expr} {ta tb : TE} {ra rb : RE} {pos : Pos}
theorem Cq.u64 (c : Cq G X) : X.A.units + 64 < cLine := by
  have := c.un
  omega
theorem Cq.u65 (c : Cq G X) : X.A.units + 65 < cLine := by
  have := c.un
  omega
theorem Cq.u1 (c : Cq G X) : X.A.units + 1 < cLine := by
  have := c.un
  omega
theorem opEq (c : Cq G X) : OpR X (compareOp .Eq) (rEqD G.W.K) := c.K ▸ op_eqD c.u64
theorem opNe (c : Cq G X) : OpR X (compareOp .NotEq) (rNeD G.W.K) := c.K ▸ op_neD c.u64
theorem opInD (hu : X.A.units + 1 < cLine) : OpR X (compareOp .In) (fun x y H Q => ∃ a o, y = .ref a ∧ DGet H a x o ∧ Q (.bl (o.isSome != false)) H) := by
  intro pins s σ H x y v u Q I rx ry ⟨a, o, ey, hd, hq⟩
  subst ey
  obtain rfl : u = Value.ref a := ry
  rw [bneF] at hq
  exact d_in hu I hd rx fun s3 I3 => ⟨.bl _, H, I3, rfl, hq⟩
theorem opIn (c : Cq G X) : OpR X (compareOp .In) (rIn3 G.W.K false) := by
  have h := (op_inD (X := X) c.u65).or ((op_inTD c.u65).or (op_in_sign.or (opInD c.u1)))
  rw [c.K] at h
  intro pins s σ H x y v u Q I rx ry hh
  refine h pins s σ H x y v u Q I rx ry ?_
  rcases hh with ⟨d, ds, h1, h2, h3, h4, h5⟩ | hh | ⟨c', z, h1, h2, h3⟩ | hh
  · rw [bneF] at h5; exact .inl ⟨d, ds, h1, h2, h3, h4, h5⟩
  · exact .inr (.inl hh)
  · rw [bneF] at h3; exact .inr (.inr (.inl ⟨c', z, h1, h2, h3⟩))
  · exact .inr (.inr (.inr hh))
theorem opNotInD (hu : X.A.units + 1 < cLine) : OpR X (compareOp .NotIn) (fun x y H Q => ∃ a o, y = .ref a ∧ DGet H a x o ∧ Q (.bl (o.isSome != true)) H) := by
  intro pins s σ H x y v u Q I rx ry ⟨a, o, ey, hd, hq⟩
  subst ey
  obtain rfl : u = Value.ref a := ry
  rw [bneT] at hq
  exact d_notIn hu I hd rx fun s3 I3 => ⟨.bl _, H, I3, rfl, hq⟩
theorem opNotIn (c : Cq G X) : OpR X (compareOp .NotIn) (rIn3 G.W.K true) := by
  have h := (op_notInD (X := X) c.u65).or ((op_notInTD c.u65).or (op_notIn_sign.or (opNotInD c.u1)))
  rw [c.K] at h
  intro pins s σ H x y v u Q I rx ry hh
  refine h pins s σ H x y v u Q I rx ry ?_
  rcases hh with ⟨d, ds, h1, h2, h3, h4, h5⟩ | hh | ⟨c', z, h1, h2, h3⟩ | hh
  · rw [bneT] at h5; exact .inl ⟨d, ds, h1, h2, h3, h4, h5⟩
  · exact .inr (.inl hh)
  · rw [bneT] at h3; exact .inr (.inr (.inl ⟨c', z, h1, h2, h3⟩))
  · exact .inr (.inr (.inr hh))
theorem opIs : OpR X (compareOp .Is) (rIs false) := by
  intro pins s σ H x y v u Q I rx ry ⟨h1, h2⟩
  rw [bneF] at h2
  exact op_isN pins s σ H x y v u Q I rx ry ⟨h1, h2⟩
theorem opIsNot : OpR X (compareOp .IsNot) (rIs true) := by
  intro pins s σ H x y v u Q I rx ry ⟨h1, h2⟩
  rw [bneT] at h2
  exact op_notN pins s σ H x y v u Q I rx ry ⟨h1, h2⟩
theorem de_eq (c : Cq G X) (ha : DE G E X a ta ra) (hb : DE G E X b tb rb) : DE G E X (.Compare a [.Eq] [b] pos) (tOp (rEqD G.W.K) ta tb) (rBin (lift2 (gEq false)) ra rb) := de_cmp (opEq c) (bv2 v_eq) ha hb (nomark _)
theorem dt_eq (c : Cq G X) (ha : DE G E X a ta ra) (hb : DE G E X b tb rb) : DT G E X (.Compare a [.Eq] [b] pos) (tTest (tOp (rEqD G.W.K) ta tb)) (rTst (rBin (lift2 (gEq false)) ra rb)) := dt_cmp (opEq c) (bv2 v_eq) ha hb (nomark _)
theorem de_ne (c : Cq G X) (ha : DE G E X a ta ra) (hb : DE G E X b tb rb) : DE G E X (.Compare a [.NotEq] [b] pos) (tOp (rNeD G.W.K) ta tb) (rBin (lift2 (gEq true)) ra rb) := de_cmp (opNe c) (bv2 v_ne) ha hb (nomark _)
theorem dt_ne (c : Cq G X) (ha : DE G E X a ta ra) (hb : DE G E X b tb rb) : DT G E X (.Compare a [.NotEq] [b] pos) (tTest (tOp (rNeD G.W.K) ta tb)) (rTst (rBin (lift2 (gEq true)) ra rb)) := dt_cmp (opNe c) (bv2 v_ne) ha hb (nomark _)
theorem de_in (c : Cq G X) (ha : DE G E X a ta ra) (hb : DE G E X b tb rb) (hm : behindInMarks .In b = false := by rfl) : DE G E X (.Compare a [.In] [b] pos) (tOp (rIn3 G.W.K false) ta tb) (rBin (lift2 (gIn false)) ra rb) := de_cmp (opIn c) (bv2 v_in) ha hb hm
theorem dt_in (c : Cq G X) (ha : DE G E X a ta ra) (hb : DE G E X b tb rb) (hm : behindInMarks .In b = false := by rfl) : DT G E X (.Compare a [.In] [b] pos) (tTest (tOp (rIn3 G.W.K false) ta tb)) (rTst (rBin (lift2 (gIn false)) ra rb)) := dt_cmp (opIn c) (bv2 v_in) ha hb hm
theorem de_notIn (c : Cq G X) (ha : DE G E X a ta ra) (hb : DE G E X b tb rb) (hm : behindInMarks .NotIn b = false := by rfl) : DE G E X (.Compare a [.NotIn] [b] pos) (tOp (rIn3 G.W.K true) ta tb) (rBin (lift2 (gIn true)) ra rb) := de_cmp (opNotIn c) (bv2 v_in) ha hb hm
theorem dt_notIn (c : Cq G X) (ha : DE G E X a ta ra) (hb : DE G E X b tb rb) (hm : behindInMarks .NotIn b = false := by rfl) : DT G E X (.Compare a [.NotIn] [b] pos) (tTest (tOp (rIn3 G.W.K true) ta tb)) (rTst (rBin (lift2 (gIn true)) ra rb)) := dt_cmp (opNotIn c) (bv2 v_in) ha hb hm
theorem de_is (ha : DE G E X a ta ra) (hb : DE G E X b tb rb) : DE G E X (.Compare a [.Is] [b] pos) (tOp (rIs false) ta tb) (rBin (lift2 (gIs false)) ra rb) := de_cmp opIs (bv2 v_is) ha hb (nomark _)
theorem dt_is (ha : DE G E X a ta ra) (hb : DE G E X b tb rb) : DT G E X (.Compare a [.Is] [b] pos) (tTest (tOp (rIs false) ta tb)) (rTst (rBin (lift2 (gIs false)) ra rb)) := dt_cmp opIs (bv2 v_is) ha hb (nomark _)
theorem de_isNot (ha : DE G E X a ta ra) (hb : DE G E X b tb rb) : DE G E X (.Compare a [.IsNot] [b] pos) (tOp (rIs true) ta tb) (rBin (lift2 (gIs true)) ra rb) := de_cmp opIsNot (bv2 v_is) ha hb (nomark _)
theorem dt_isNot (ha : DE G E X a ta ra) (hb : DE G E X b tb rb) : DT G E X (.Compare a [.IsNot] [b] pos) (tTest (tOp (rIs true) ta tb)) (rTst (rBin (lift2 (gIs true)) ra rb)) := dt_cmp opIsNot (bv2 v_is) ha hb (nomark _)
end
/-! ### + -/
def gAdd : G2
  | .int i, .int j, R => R (.d (.int (i + j)))
  | .str a, .str b, R => a.length + b.length ≤ sizeLine ∧ R (.d (.str (a ++ b)))
  | .lst xs, .lst ys, R => xs.length + ys.length ≤ sizeLine ∧ ∀ p, R (.m p (.lst (xs ++ ys)))
  | .tup xs, .tup ys, R => xs.length + ys.length ≤ sizeLine ∧ R (.d (.tup (xs ++ ys)))
  | _, _, _ => False
def rCat0 (K : Frag) : R2 := fun x y H Q => ∃ a b ys, x = .ref a ∧ y = .ref b ∧ SqT K H a [] ∧ SqT K H b ys ∧ Q (.ref b) H
theorem op_cat0 {X : Cx} : OpR X (binaryOp .Add) (rCat0 X.K) := by
  intro pins s σ H x y v u Q I rx ry h
  obtain ⟨a, b, ys, rfl, rfl, ha, hb, q⟩ := h
  cases rx
  cases ry
  obtain ⟨its, r1, p1, _⟩ := I.tuple ha
  obtain ⟨its2, r2, p2, _⟩ := I.tuple hb
  cases r1
  obtain ⟨⟨cls, dd, data, sl⟩, ho, hc, n, hd⟩ := id p1
  obtain ⟨⟨cls2, dd2, data2, sl2⟩, ho2, hc2, n2, hd2⟩ := id p2
  simp only at hc hd hc2 hd2
  subst hc hd hc2 hd2
  exact concat_meets ⟨_, ho, rfl⟩ ⟨_, ho2, rfl⟩ noFill_tuple_add seq_tuple_add PySem.F.slot_tuple_add PySem.F.entry_tuple_add (PySem.F.args_tuple_add_2 _ _)
    (PyProof.Rows.tuple_addW0 a b #[] its2.toArray n n2 dd dd2 sl sl2 rfl) ⟨ho, ho2, ⟨.ref b, H, I, rfl, q⟩⟩
def rAdd4 (K : Frag) : R2 := fun x y H Q => rI0 (fun i j => .int (i + j)) x y H Q ∨ (∃ i j, x = .str i ∧ y = .str j ∧ i.length + j.length ≤ sizeLine ∧ Q (.str (i ++ j)) H) ∨ rCat x y H Q ∨ rCatT K x y H Q ∨ rCat0 K x y H Q
theorem okS_app {a b : Str} (ha : okS a) (hb : okS b) (h : a.length + b.length ≤ sizeLine) : okS (a ++ b) := by
  refine ⟨by rw [Str.length_append]; exact h, ?_⟩
  have h1 := ha.2
  have h2 := hb.2
  unfold PyData.strOk at h1 h2 ⊢
  rw [Array.all_eq_true'] at h1 h2 ⊢
  intro x hx
  have hx : x ∈ a.cps ++ b.cps := hx
  rcases Array.mem_append.mp hx with z | z
  · exact h1 x z
  · exact h2 x z
theorem AtL.nil_iff {W : Wd} {H : Hp} {O : List Addr} {vs : List V} {ds : List D} (h : AtL W H O vs ds) : vs = [] ↔ ds = [] := by
  cases h <;> simp
theorem v_add {W : Wd} : Val2 W (rAdd4 W.K) gAdd := fun H O x d y e Q R hx hy hg q => by
  unfold gAdd at hg
  split at hg
  · cases hx; cases hy
    exact .inl ⟨_, _, rfl, rfl, q.here (.int _) hg⟩
  · cases hx with
    | str _ ha =>
      cases hy with
      | str _ hb => exact .inr (.inl ⟨_, _, rfl, rfl, hg.1, q.here (.str _ (okS_app ha hb hg.1)) hg.2⟩)
  · cases hx with
    | lst h1 n1 t1 =>
      cases hy with
      | lst h2 n2 t2 =>
        refine .inr (.inr (.inl ⟨_, _, _, _, rfl, rfl, h1, h2, by rw [t1.length, t2.length]; exact hg.1, fun p np => q.newL (t1.app t2) (hg.2 p) np⟩))
  · cases hx with
    | tup h1 t1 =>
      cases hy with
      | tup h2 t2 =>
        obtain ⟨vs1, s1, a1⟩ := At.tuple (.tup h1 t1)
        obtain ⟨vs2, s2, a2⟩ := At.tuple (.tup h2 t2)
        cases vs1 with
        | nil =>
          have e1 := a1.nil_iff.mp rfl
          subst e1
          exact .inr (.inr (.inr (.inr ⟨_, _, vs2, rfl, rfl, s1, s2, q.here (.tup h2 t2) hg.2⟩)))
        | cons v1 vs1 =>
          refine .inr (.inr (.inr (.inl ⟨_, _, v1 :: vs1, vs2, rfl, rfl, s1, s2, (fun z => by cases z), by rw [a1.length, a2.length]; exact hg.1, fun z => ?_, fun _ p np => q.newT (a1.app a2) hg.2 np⟩)))
          have e2 := a2.nil_iff.mp z
          have hR := hg.2
          rw [e2, List.append_nil] at hR
          exact q.here (.tup h1 t1) hR
  · exact False.elim hg
section
variable {G : Gw} {E : XK} {X : Cx} {k : Nat} {gq : Bool} {a b : Expr} {es : List Expr} {ta tb : TE} {ra rb : RE} {pos : Pos}
theorem opAdd (c : Cq G X) : OpR X (binaryOp .Add) (rAdd4 G.W.K) := by
  have h := (op_add (X := X)).or (op_add_str.or (op_cat.or (op_catT.or op_cat0)))
  rw [c.K] at h
  exact h
theorem de_add (c : Cq G X) (ha : DE G E X a ta ra) (hb : DE G E X b tb rb) : DE G E X (.BinOp a .Add b pos) (tOp (rAdd4 G.W.K) ta tb) (rBin (lift2 gAdd) ra rb) := de_op (opAdd c) (bv2 v_add) ha hb
/-! ### -x -/
def rNeg (r : RE) : RE := fun ρ R e => r ρ (fun s ρ' => match s with
  | .d (.int i) => R (.d (.int (-i))) ρ'
  | _ => False) e
theorem de_neg (ha : DE G E X a ta ra) : DE G E X (.UnaryOp .USub a pos) (tUn (rU fun i => .int (-i)) ta) (rNeg ra) := ⟨pe_un un_neg ha.p, fun σ H ρ Γ Q R e re hr q o => ha.s σ H ρ Γ _ _ e re hr (fun v s ρ' H' r' h' => by
  try dsimp only at h'
  split at h'
  · rename_i i
    have z : At G.W H' _ v (.int i) := r'.head
    cases z
    exact ⟨i, rfl, q _ _ _ _ (r'.drop.data (.int _)) h'⟩
  · exact False.elim h') o⟩
end
end QL
set_option Elab.async false
set_option linter.all false
set_option maxRecDepth 100000
set_option maxHeartbeats 4000000
namespace QL
open PySem L2
open PySem.W (Frag)
theorem ok_ofString (z : String) : PyData.strOk (Str.ofString z) = true := by
  unfold PyData.strOk
  rw [Array.all_eq_true']
  intro x hx
  have hx2 : x ∈ (Str.ofString z).cps.toList := Array.mem_toList_iff.mpr hx
  rw [PyProof.Rows.signs_ofString] at hx2
  obtain ⟨c, _, rfl⟩ := List.mem_map.mp hx2
  have h := c.valid
  rcases h with h | h
  · exact decide_eq_true (Nat.lt_of_lt_of_le h (by decide))
  · exact decide_eq_true h.2
/-! ### built-in functions -/
def gLen : G1
  | [.str z], R => R (.d (.int z.length))
  | [.lst xs], R => R (.d (.int xs.length))
  | [.tup xs], R => R (.d (.int xs.length))
  | [.dk ks xs], R => R (.d (.int ks.length))
  | [.scr ns], R => R (.d (.int ns.length))
  | _, _ => False
def rLen3 (K : Frag) : List V → Hp → VK → Prop := fun xs H Q => (∃ p ys, xs = [.ref p] ∧ (SqL K H p ys ∨ SqT K H p ys) ∧ Q (.int ys.length) H) ∨ (∃ z, xs = [.str z] ∧ z.length ≤ sizeLine ∧ Q (.int z.length) H) ∨ ∃ a kvs, xs = [V.ref a] ∧ H a = some (.dK kvs) ∧ Q (.int kvs.length) H
theorem ScAt.sq {K : Frag} {H : Hp} {O : List Addr} {a : Addr} {vs : List V} (h : ScAt K H O a vs) : SqL K H a vs := by
  rcases h with ⟨z, _⟩ | ⟨o, z, _⟩ | z
  · exact .inl (.inl z)
  · exact .inl (.inr ⟨o, z⟩)
  · exact z H
section
variable {W : Wd}
theorem v_len : Val1 W (rLen3 W.K) gLen := fun H O vs ds Q R h hg q => by
  unfold gLen at hg
  split at hg
  · cases h with
    | cons a t =>
      cases t
      cases a with
      | str _ hz => exact .inr (.inl ⟨_, rfl, hz.1, q.here (.int _) hg⟩)
  · cases h with
    | cons a t =>
      cases t
      cases a with
      | lst h1 h2 h3 =>
        refine .inl ⟨_, _, rfl, .inl (.inl (.inl h1)), ?_⟩
        rw [h3.length]
        exact q.here (.int _) hg
  · cases h with
    | cons a t =>
      cases t
      cases a with
      | tup h1 h3 =>
        obtain ⟨vs, g1, g2⟩ := At.tuple (.tup h1 h3)
        refine .inl ⟨_, vs, rfl, .inr g1, ?_⟩
        rw [g2.length]
        exact q.here (.int _) hg
  · cases h with
    | cons a t =>
      cases t
      cases a with
      | dk h1 h2 h3 h4 =>
        refine .inr (.inr ⟨_, _, rfl, h1, ?_⟩)
        rw [List.length_zip, ← h2, Nat.min_self]
        exact q.here (.int _) hg
  · cases h with
    | cons a t =>
      cases t
      cases a with
      | scr h1 =>
        refine .inl ⟨_, _, rfl, .inl h1.sq, ?_⟩
        rw [List.length_map]
        exact q.here (.int _) hg
  · exact False.elim hg
def gInt : G1
  | [.int i], R => R (.d (.int i))
  | [.bl b], R => R (.d (.int (if b then 1 else 0)))
  | _, _ => False
theorem v_int : Val1 W (fun xs H Q => (∃ i, xs = [.int i] ∧ Q (.int i) H) ∨ ∃ k, xs = [.bl k] ∧ Q (.int (if k then 1 else 0)) H) gInt := fun H O vs ds Q R h hg q => by
  unfold gInt at hg
  split at hg
  · cases h with
    | cons a t =>
      cases t
      cases a
      exact .inl ⟨_, rfl, q.here (.int _) hg⟩
  · cases h with
    | cons a t =>
      cases t
      cases a
      exact .inr ⟨_, rfl, q.here (.int _) hg⟩
  · exact False.elim hg
def gAbs : G1
  | [.int i], R => R (.d (.int (if i < 0 then -i else i)))
  | _, _ => False
theorem v_abs : Val1 W (fun xs H Q => ∃ i, xs = [.int i] ∧ Q (.int (if i < 0 then -i else i)) H) gAbs := fun H O vs ds Q R h hg q => by
  unfold gAbs at hg
  split at hg
  · cases h with
    | cons a t =>
      cases t
      cases a
      exact ⟨_, rfl, q.here (.int _) hg⟩
  · exact False.elim hg
def gMax : G1
  | [.int i, .int j], R => R (.d (.int (if j > i then j else i)))
  | _, _ => False
def gMin : G1
  | [.int i, .int j], R => R (.d (.int (if j < i then j else i)))
  | _, _ => False
theorem v_max : Val1 W (fun xs H Q => ∃ i j, xs = [.int i, .int j] ∧ Q (.int (if j > i then j else i)) H) gMax := fun H O vs ds Q R h hg q => by
  unfold gMax at hg
  split at hg
  · cases h with
    | cons a t =>
      cases t with
      | cons b t =>
        cases t
        cases a
        cases b
        exact ⟨_, _, rfl, q.here (.int _) hg⟩
  · exact False.elim hg
theorem v_min : Val1 W (fun xs H Q => ∃ i j, xs = [.int i, .int j] ∧ Q (.int (if j < i then j else i)) H) gMin := fun H O vs ds Q R h hg q => by
  unfold gMin at hg
  split at hg
  · cases h with
    | cons a t =>
      cases t with
      | cons b t =>
        cases t
        cases a
        cases b
        exact ⟨_, _, rfl, q.here (.int _) hg⟩
  · exact False.elim hg
def gStrI : G1
  | [.int i], R => (i.natAbs.log2 < 1920 ∧ (Str.ofString (toString i)).length ≤ sizeLine) ∧ R (.d (.str (Str.ofString (toString i))))
  | _, _ => False
theorem v_strI : Val1 W (fun xs H Q => ∃ i : Int, xs = [.int i] ∧ i.natAbs.log2 < 1920 ∧ Q (.str (toString i)) H) gStrI := fun H O vs ds Q R h hg q => by
  unfold gStrI at hg
  split at hg
  · cases h with
    | cons a t =>
      cases t
      cases a
      exact ⟨_, rfl, hg.1.1, q.here (.str _ ⟨hg.1.2, ok_ofString _⟩) hg.2⟩
  · exact False.elim hg
def gTuple : G1
  | [.lst xs], R => R (.d (.tup xs))
  | [.tup xs], R => R (.d (.tup xs))
  | _, _ => False
theorem v_tuple : Val1 W (fun xs H Q => ∃ p ys, xs = [.ref p] ∧ ((SqL W.K H p ys ∧ ∀ l, H l = none → Q (.ref l) (upd H l (.tup ys))) ∨ (SqT W.K H p ys ∧ Q (.ref p) H))) gTuple := fun H O vs ds Q R h hg q => by
  unfold gTuple at hg
  split at hg
  · cases h with
    | cons a t =>
      cases t
      cases a with
      | lst h1 h2 h3 => exact ⟨_, _, rfl, .inl ⟨.inl (.inl h1), fun l nl => q.newT h3 hg nl⟩⟩
  · cases h with
    | cons a t =>
      cases t
      cases a with
      | tup h1 h3 =>
        obtain ⟨vs, g1, g2⟩ := At.tuple (.tup h1 h3)
        exact ⟨_, vs, rfl, .inr ⟨g1, q.here (.tup h1 h3) hg⟩⟩
  · exact False.elim hg
def gList : G1
  | [.lst xs], R => ∀ p, R (.m p (.lst xs))
  | [.tup xs], R => ∀ p, R (.m p (.lst xs))
  | _, _ => False
theorem v_list : Val1 W (fun xs H Q => ∃ p ys, xs = [.ref p] ∧ (SqL W.K H p ys ∨ SqT W.K H p ys) ∧ ∀ l, H l = none → Q (.ref l) (upd H l (.lst ys))) gList := fun H O vs ds Q R h hg q => by
  unfold gList at hg
  split at hg
  · cases h with
    | cons a t =>
      cases t
      cases a with
      | lst h1 h2 h3 => exact ⟨_, _, rfl, .inl (.inl (.inl h1)), fun l nl => q.newL h3 (hg l) nl⟩
  · cases h with
    | cons a t =>
      cases t
      cases a with
      | tup h1 h3 =>
        obtain ⟨vs, g1, g2⟩ := At.tuple (.tup h1 h3)
        exact ⟨_, vs, rfl, .inr g1, fun l nl => q.newL g2 (hg l) nl⟩
  · exact False.elim hg
/-- truths -/
def blsD : List D → Option (List Bool)
  | [] => some []
  | .bl b :: xs => match blsD xs with
    | some bs => some (b :: bs)
    | none => none
  | _ :: _ => none
theorem bls_at {H : Hp} {O : List Addr} : ∀ {vs : List V} {ds : List D} {bs : List Bool}, AtL W H O vs ds → blsD ds = some bs → vs = bs.map V.bl
  | _, _, _, .nil, e => by cases e; rfl
  | _, _, _, .cons a t, e => by
    rename_i bs v d vs ds
    cases d with
    | bl b =>
      unfold blsD at e
      split at e
      · rename_i bs' hb
        cases e
        cases a
        rw [bls_at t hb]
        rfl
      · cases e
    | _ => cases e
def gAll : G1
  | [.lst xs], R => optP (blsD xs) fun bs => R (.d (.bl (bs.all id)))
  | _, _ => False
def gAny : G1
  | [.lst xs], R => optP (blsD xs) fun bs => R (.d (.bl (bs.any id)))
  | _, _ => False
theorem v_all : Val1 W (rAll W.K) gAll := fun H O vs ds Q R h hg q => by
  unfold gAll at hg
  split at hg
  · obtain ⟨bs, hb, hg⟩ := opt_get hg
    cases h with
    | cons a t =>
      cases t
      cases a with
      | lst h1 h2 h3 =>
        have e := bls_at h3 hb
        subst e
        exact ⟨_, bs, rfl, .inl (.inl h1), q.here (.bl _) hg⟩
  · exact False.elim hg
theorem v_any : Val1 W (rAny W.K) gAny := fun H O vs ds Q R h hg q => by
  unfold gAny at hg
  split at hg
  · obtain ⟨bs, hb, hg⟩ := opt_get hg
    cases h with
    | cons a t =>
      cases t
      cases a with
      | lst h1 h2 h3 =>
        have e := bls_at h3 hb
        subst e
        exact ⟨_, bs, rfl, .inl (.inl h1), q.here (.bl _) hg⟩
  · exact False.elim hg
/-- sorted -/
def sortD (xs : List D) : List D := xs.mergeSort (PySem.W.dataLe false toP)
structure Srt (xs : List D) : Prop where
  pl : plDs xs = true
  al : PySem.W.AllAlike (xs.map toP)
  so : PySem.W.Sortable (xs.map toP)
  dp : ∀ x ∈ xs, (toP x).depth ≤ 50
def gSort : G1
  | [.lst xs], R => Srt xs ∧ ∀ p, R (.m p (.lst (sortD xs)))
  | [.tup xs], R => Srt xs ∧ ∀ p, R (.m p (.lst (sortD xs)))
  | _, _ => False
def rSortE (K : Frag) : List V → Hp → VK → Prop := fun xs H Q => ∃ R : Hp → V → D → Prop, rSortR K toP R xs H Q
theorem paired_at {H : Hp} {O : List Addr} : ∀ {vs : List V} {ds : List D}, AtL W H O vs ds → plDs ds = true → Paired (fun v d => At W H O v d ∧ plD d = true) vs ds
  | _, _, .nil, _ => .nil
  | _, _, .cons a t, p => by
    have p : (plD _ && plDs _) = true := p
    rw [Bool.and_eq_true] at p
    exact .cons ⟨a, p.1⟩ (paired_at t p.2)
theorem at_paired {H : Hp} {O : List Addr} {F : D → Prop} : ∀ {vs : List V} {ds : List D}, Paired (fun v d => At W H O v d ∧ F d) vs ds → AtL W H O vs ds
  | _, _, .nil => .nil
  | _, _, .cons a t => .cons a.1 (at_paired t)
theorem v_sort : Val1 W (rSortE W.K) gSort := fun H O vs ds Q R h hg q => by
  have fin : ∀ {a : Addr} {us : List V} {xs : List D}, (SqL W.K H a us ∨ SqT W.K H a us) → AtL W H O us xs → Srt xs → (∀ p, R (.m p (.lst (sortD xs)))) → rSortE W.K [.ref a] H Q := fun {a us xs} h1 h2 h3 h4 =>
    ⟨fun H v d => At W H O v d ∧ plD d = true, a, us, xs, rfl, h1, paired_at h2 h3.pl, fun v b z => z.1.dp z.2, h3.al, h3.so, h3.dp, fun ys p np hp => q.newL (at_paired hp) (h4 p) np⟩
  unfold gSort at hg
  split at hg
  · cases h with
    | cons a t =>
      cases t
      cases a with
      | lst h1 h2 h3 => exact fin (.inl (.inl (.inl h1))) h3 hg.1 hg.2
  · cases h with
    | cons a t =>
      cases t
      cases a with
      | tup h1 h3 =>
        obtain ⟨vs, g1, g2⟩ := At.tuple (.tup h1 h3)
        exact fin (.inr g1) g2 hg.1 hg.2
  · exact False.elim hg
end
/-- the built-in names that the module leaves alone -/
structure Bn (mg : Str → Option Value) : Prop where
  isi : mg "isinstance" = none
  int : mg "int" = none
  boo : mg "bool" = none
  str : mg "str" = none
  tup : mg "tuple" = none
  lst : mg "list" = none
  dic : mg "dict" = none
  len : mg "len" = none
  alL : mg "all" = none
  anY : mg "any" = none
  enu : mg "enumerate" = none
  srt : mg "sorted" = none
  abS : mg "abs" = none
  ran : mg "range" = none
  set : mg "set" = none
  rep : mg "repr" = none
  max : mg "max" = none
  min : mg "min" = none
section
variable {G : Gw} {E : XK} {X : Cx} {k : Nat} {gq : Bool} {a : Expr} {es : List Expr} {t : TA} {r : RA} {p pos : Pos}
theorem callLen (c : Cq G X) : CallR X (.builtin "len") (rLen3 G.W.K) := by
  have h := (call_len_seq (X := X)).or (call_len_str.or call_lenD)
  rw [c.K] at h
  exact h
theorem de_len (c : Cq G X) (T : Bn X.mg) (h : DA G E X (a :: es) t r) (hg : Gl X "len" := by rfl) (he : starEach (a :: es) X.env = (false, eval a X.env) :: starEach es X.env := by rfl) (hpl : (backTo pos (starEach es X.env)).any (·.1) = false := by rfl) :
    DE G E X (.Call (.Name "len" p) (a :: es) [] pos) (tCB (rLen3 G.W.K) t) (rCB (lift1 gLen) r) := de_callB (callLen c) (bv1 v_len) T.len (by decide +kernel) h hg (by decide) (by decide) he hpl
theorem de_intc (T : Bn X.mg) (h : DA G E X (a :: es) t r) (hg : Gl X "int" := by rfl) (he : starEach (a :: es) X.env = (false, eval a X.env) :: starEach es X.env := by rfl) (hpl : (backTo pos (starEach es X.env)).any (·.1) = false := by rfl) :
    DE G E X (.Call (.Name "int" p) (a :: es) [] pos) (tCB (fun xs H Q => (∃ i, xs = [.int i] ∧ Q (.int i) H) ∨ ∃ k, xs = [.bl k] ∧ Q (.int (if k then 1 else 0)) H) t) (rCB (lift1 gInt) r) := de_callTy call_int1 (bv1 v_int) T.int (by decide +kernel) h hg (by decide) (by decide) he hpl
theorem de_abs (T : Bn X.mg) (h : DA G E X (a :: es) t r) (hg : Gl X "abs" := by rfl) (he : starEach (a :: es) X.env = (false, eval a X.env) :: starEach es X.env := by rfl) (hpl : (backTo pos (starEach es X.env)).any (·.1) = false := by rfl) :
    DE G E X (.Call (.Name "abs" p) (a :: es) [] pos) (tCB (fun xs H Q => ∃ i, xs = [.int i] ∧ Q (.int (if i < 0 then -i else i)) H) t) (rCB (lift1 gAbs) r) := de_callB call_abs (bv1 v_abs) T.abS (by decide +kernel) h hg (by decide) (by decide) he hpl
theorem de_max (c : Cn G E X k gq) (T : Bn X.mg) (h : DA G E X (a :: es) t r) (hg : Gl X "max" := by rfl) (he : starEach (a :: es) X.env = (false, eval a X.env) :: starEach es X.env := by rfl) (hpl : (backTo pos (starEach es X.env)).any (·.1) = false := by rfl) :
    DE G E X (.Call (.Name "max" p) (a :: es) [] pos) (tCB (fun xs H Q => ∃ i j, xs = [.int i, .int j] ∧ Q (.int (if j > i then j else i)) H) t) (rCB (lift1 gMax) r) := de_callB (call_max2 c.calm) (bv1 v_max) T.max (by decide +kernel) h hg (by decide) (by decide) he hpl
theorem de_min (c : Cn G E X k gq) (T : Bn X.mg) (h : DA G E X (a :: es) t r) (hg : Gl X "min" := by rfl) (he : starEach (a :: es) X.env = (false, eval a X.env) :: starEach es X.env := by rfl) (hpl : (backTo pos (starEach es X.env)).any (·.1) = false := by rfl) :
    DE G E X (.Call (.Name "min" p) (a :: es) [] pos) (tCB (fun xs H Q => ∃ i j, xs = [.int i, .int j] ∧ Q (.int (if j < i then j else i)) H) t) (rCB (lift1 gMin) r) := de_callB (call_min2 c.calm) (bv1 v_min) T.min (by decide +kernel) h hg (by decide) (by decide) he hpl
theorem de_strI (T : Bn X.mg) (h : DA G E X (a :: es) t r) (hg : Gl X "str" := by rfl) (he : starEach (a :: es) X.env = (false, eval a X.env) :: starEach es X.env := by rfl) (hpl : (backTo pos (starEach es X.env)).any (·.1) = false := by rfl) :
    DE G E X (.Call (.Name "str" p) (a :: es) [] pos) (tCB (fun xs H Q => ∃ i : Int, xs = [.int i] ∧ i.natAbs.log2 < 1920 ∧ Q (.str (toString i)) H) t) (rCB (lift1 gStrI) r) := de_callTy call_str_int (bv1 v_strI) T.str (by decide +kernel) h hg (by decide) (by decide) he hpl
theorem de_tuple (c : Cq G X) (T : Bn X.mg) (h : DA G E X (a :: es) t r) (hg : Gl X "tuple" := by rfl) (he : starEach (a :: es) X.env = (false, eval a X.env) :: starEach es X.env := by rfl) (hpl : (backTo pos (starEach es X.env)).any (·.1) = false := by rfl) :
    DE G E X (.Call (.Name "tuple" p) (a :: es) [] pos) (tCB (fun xs H Q => ∃ p ys, xs = [.ref p] ∧ ((SqL G.W.K H p ys ∧ ∀ l, H l = none → Q (.ref l) (upd H l (.tup ys))) ∨ (SqT G.W.K H p ys ∧ Q (.ref p) H))) t) (rCB (lift1 gTuple) r) :=
  de_callTy (by have z := call_tuple_of (X := X); rw [c.K] at z; exact z) (bv1 v_tuple) T.tup (by decide +kernel) h hg (by decide) (by decide) he hpl
theorem de_list (c : Cq G X) (T : Bn X.mg) (h : DA G E X (a :: es) t r) (hg : Gl X "list" := by rfl) (he : starEach (a :: es) X.env = (false, eval a X.env) :: starEach es X.env := by rfl) (hpl : (backTo pos (starEach es X.env)).any (·.1) = false := by rfl) :
    DE G E X (.Call (.Name "list" p) (a :: es) [] pos) (tCB (fun xs H Q => ∃ p ys, xs = [.ref p] ∧ (SqL G.W.K H p ys ∨ SqT G.W.K H p ys) ∧ ∀ l, H l = none → Q (.ref l) (upd H l (.lst ys))) t) (rCB (lift1 gList) r) :=
  de_callTy (by have z := call_list_of (X := X); rw [c.K] at z; exact z) (bv1 v_list) T.lst (by decide +kernel) h hg (by decide) (by decide) he hpl
theorem de_all (c : Cn G E X k gq) (T : Bn X.mg) (h : DA G E X (a :: es) t r) (hg : Gl X "all" := by rfl) (he : starEach (a :: es) X.env = (false, eval a X.env) :: starEach es X.env := by rfl) (hpl : (backTo pos (starEach es X.env)).any (·.1) = false := by rfl) :
    DE G E X (.Call (.Name "all" p) (a :: es) [] pos) (tCB (rAll G.W.K) t) (rCB (lift1 gAll) r) := de_callB (by have z := cr_all (X := X) c.calm; rw [c.K] at z; exact z) (bv1 v_all) T.alL (by decide +kernel) h hg (by decide) (by decide) he hpl
theorem de_any (c : Cn G E X k gq) (T : Bn X.mg) (h : DA G E X (a :: es) t r) (hg : Gl X "any" := by rfl) (he : starEach (a :: es) X.env = (false, eval a X.env) :: starEach es X.env := by rfl) (hpl : (backTo pos (starEach es X.env)).any (·.1) = false := by rfl) :
    DE G E X (.Call (.Name "any" p) (a :: es) [] pos) (tCB (rAny G.W.K) t) (rCB (lift1 gAny) r) := de_callB (by have z := cr_any (X := X) c.calm; rw [c.K] at z; exact z) (bv1 v_any) T.anY (by decide +kernel) h hg (by decide) (by decide) he hpl
theorem callSort (c : Cq G X) : CallR X (.builtin "sorted") (rSortE G.W.K) := by
  intro pins s σ H xs us Q I r ⟨R, h⟩
  rw [← c.K] at h
  exact cr_sortR c.u64 pins s σ H xs us Q I r h
theorem de_sorted (c : Cq G X) (T : Bn X.mg) (h : DA G E X (a :: es) t r) (hg : Gl X "sorted" := by rfl) (he : starEach (a :: es) X.env = (false, eval a X.env) :: starEach es X.env := by rfl) (hpl : (backTo pos (starEach es X.env)).any (·.1) = false := by rfl) :
    DE G E X (.Call (.Name "sorted" p) (a :: es) [] pos) (tCB (rSortE G.W.K) t) (rCB (lift1 gSort) r) := de_callB (callSort c) (bv1 v_sort) T.srt (by decide +kernel) h hg (by decide) (by decide) he hpl
end
end QL
set_option Elab.async false
set_option linter.all false
set_option maxRecDepth 100000
set_option maxHeartbeats 4000000
namespace QL
open PySem L2
open PySem.W (Frag kitOne findIn)
/-! ### isinstance -/
/-- what isinstance asks of a class of one's own -/
structure CTy (K : Frag) (C : Addr) : Prop where
  cl : Cls K C
  ha : findIn K (.ref C) "__class__" = some (some (.builtin "object.__class__"))
  hn : PySem.W.specialIn K (.builtin "object.__class__") "__get__" = some (some (.builtin "getset_descriptor.__get__"))
  htk : PySem.W.takesIn K (.builtin "object.__class__") = some true
  hm : PySem.W.mroIn K C (.type "object") = some true
/-- the answers: u is the class asked for; of own instances ci tells -/
def isiD (kb : String → Option Bool) (ci : Nat → Option Bool) : D → Option Bool
  | .non => kb "NoneType"
  | .bl _ => kb "bool"
  | .int _ => kb "int"
  | .str _ => kb "str"
  | .tup _ => kb "tuple"
  | .lst _ => kb "list"
  | .dk _ _ => kb "dict"
  | .dt _ _ => kb "dict"
  | .ins c _ _ _ => ci c
  | .rf _ => none
  | .scr _ => kb "list"
  | .exc _ _ _ _ _ => none
structure IsiOk (W : Wd) (u : Value) (kb : String → Option Bool) (ci : Nat → Option Bool) : Prop where
  kb : ∀ t b, kb t = some b → kitOne W.K (.type t) u = some b
  ci : ∀ c b, ci c = some b → CTy W.K (W.CA c) ∧ kitOne W.K (.ref (W.CA c)) u = some b
theorem sqT_ty {K : Frag} {H : Hp} {a : Addr} {xs : List V} (h : SqT K H a xs) : TyX K H (.ref a) (.type "tuple") := by
  rcases h with (h | ⟨o, h⟩) | ⟨o, its, n, h, hc, _⟩
  · exact .base (.tup h)
  · exact .fTuple h
  · exact .kTuple h hc
theorem sqL_ty {K : Frag} {H : Hp} {a : Addr} {xs : List V} (h : SqL K H a xs) : TyX K H (.ref a) (.type "list") := by
  rcases h with (h | ⟨o, h⟩) | ⟨o, its, n, h, hc, _⟩
  · exact .base (.lst h)
  · exact .base (.frz h)
  · exact .kList h hc
theorem isi_at {W : Wd} {u : Value} {kb : String → Option Bool} {ci : Nat → Option Bool} (I : IsiOk W u kb ci) {H : Hp} {O : List Addr} {v : V} {d : D} {b : Bool} (h : At W H O v d) (e : isiD kb ci d = some b) : ∃ t, TyX W.K H v t ∧ kitOne W.K t u = some b := by
  cases h with
  | non => exact ⟨_, .base .non, I.kb _ _ e⟩
  | bl x => exact ⟨_, .base (.bl x), I.kb _ _ e⟩
  | int i => exact ⟨_, .base (.int i), I.kb _ _ e⟩
  | str z _ => exact ⟨_, .base (.str z), I.kb _ _ e⟩
  | tup h t =>
    obtain ⟨vs, g1, _⟩ := At.tuple (.tup h t)
    exact ⟨_, sqT_ty g1, I.kb _ _ e⟩
  | lst h n t => exact ⟨_, .base (.lst h), I.kb _ _ e⟩
  | dk h l n t => exact ⟨_, .base (.dK h), I.kb _ _ e⟩
  | dt h l n t => exact ⟨_, .base (.dT h), I.kb _ _ e⟩
  | ins h l n t =>
    obtain ⟨c, k⟩ := I.ci _ _ e
    exact ⟨_, .base (.ins h c.cl c.ha c.hn c.htk c.hm), k⟩
  | rf a => cases e
  | scr h => exact ⟨_, sqL_ty h.sq, I.kb _ _ e⟩
  | exc h l t => cases e
def rIsi' (f : D → Option Bool) (r : RE) : RE := fun ρ R e => r ρ (fun s ρ' => match s.dat with
  | some x => match f x with
    | some b => R (.d (.bl b)) ρ'
    | none => False
  | none => False) e
section
variable {G : Gw} {E : XK} {X : Cx} {k : Nat} {gq : Bool} {a b : Expr} {es : List Expr} {ta tb : TE} {ra rb : RE} {pos p p2 : Pos}
theorem snd_isi {c : V} {u : Value} {kb : String → Option Bool} {ci : Nat → Option Bool} (hc : ClsV c u) (I : IsiOk G.W u kb ci) (h : SndE G E ta ra) : SndE G E (tCB (rIsi G.W.K) (tCons ta (tCons (tC c) tNil))) (rIsi' (isiD kb ci) ra) := fun σ H ρ Γ Q R e re hr q o =>
  h σ H ρ Γ _ _ e re hr (fun v s ρ' H' r' h' => by
    try dsimp only at h'
    split at h'
    · rename_i x hx
      split at h'
      · rename_i b hb
        have r2 := r'.dat hx
        obtain ⟨t, h1, h2⟩ := isi_at I (show At G.W H' _ v x from r2.head) hb
        exact ⟨v, c, t, u, b, rfl, hc, h1, h2, q _ _ _ _ (r2.drop.data (.bl b)) h'⟩
      · exact False.elim h'
    · exact False.elim h') o
theorem callIsi (c : Cq G X) : CallR X (.builtin "isinstance") (rIsi G.W.K) := by
  have z := call_isi (X := X)
  rw [c.K] at z
  exact z
/-- isinstance(e, T), T a built-in class -/
theorem de_isB {x : Str} {T : String} {kb : String → Option Bool} {ci : Nat → Option Bool} (c : Cq G X) (B : Bn X.mg) (h : DE G E X a ta ra) (hm : X.mg x = none) (hv : bootBuiltins x = some (.type T)) (I : IsiOk G.W (.type T) kb ci) (hg : Gl X "isinstance" := by rfl) (hgx : Gl X x := by rfl) (hn : x ≠ "__name__" := by decide) (hd : (x == ("__debug__" : Str)) = false := by decide)
    (he : starEach [a, .Name x p2] X.env = (false, eval a X.env) :: starEach [.Name x p2] X.env := by rfl) (he2 : starEach [.Name x p2] X.env = (false, eval (.Name x p2) X.env) :: starEach [] X.env := by rfl) (hpl : (backTo pos (starEach [.Name x p2] X.env)).any (·.1) = false := by rfl) :
    DE G E X (.Call (.Name "isinstance" p) [a, .Name x p2] [] pos) (tCB (rIsi G.W.K) (tCons ta (tCons (tC (.ty T)) tNil))) (rIsi' (isiD kb ci) ra) :=
  ⟨pe_callB (callIsi c) hg B.isi (by decide +kernel) (pa_cons h.p (pa_cons (pe_bltn (v := .ty T) hgx hm hv rfl hn hd) pa_nil he2) he) (by decide) (by decide) he hpl, snd_isi (.ty _) I h.s⟩
/-- isinstance(e, C), C a class of the module -/
theorem de_isC {x : Str} {C : Addr} {kb : String → Option Bool} {ci : Nat → Option Bool} (c : Cq G X) (B : Bn X.mg) (h : DE G E X a ta ra) (hm : X.mg x = some (.ref C)) (I : IsiOk G.W (.ref C) kb ci) (hg : Gl X "isinstance" := by rfl) (hgx : Gl X x := by rfl) (hd : (x == ("__debug__" : Str)) = false := by decide)
    (he : starEach [a, .Name x p2] X.env = (false, eval a X.env) :: starEach [.Name x p2] X.env := by rfl) (he2 : starEach [.Name x p2] X.env = (false, eval (.Name x p2) X.env) :: starEach [] X.env := by rfl) (hpl : (backTo pos (starEach [.Name x p2] X.env)).any (·.1) = false := by rfl) :
    DE G E X (.Call (.Name "isinstance" p) [a, .Name x p2] [] pos) (tCB (rIsi G.W.K) (tCons ta (tCons (tC (.ref C)) tNil))) (rIsi' (isiD kb ci) ra) :=
  ⟨pe_callB (callIsi c) hg B.isi (by decide +kernel) (pa_cons h.p (pa_cons (pe_glob (v := .ref C) hgx hm rfl hd) pa_nil he2) he) (by decide) (by decide) he hpl, snd_isi (.own _) I h.s⟩
/-! ### a < b < c -/
def rChain (g g' : F2) (ra rb rc : RE) : RE := fun ρ R e => ra ρ (fun s ρ1 => rb ρ1 (fun t ρ2 => match t with
  | .d y => g s (.d y) fun z => match z with
    | .d (.bl true) => rc ρ2 (fun u ρ3 => g' (.d y) u fun z' => R z' ρ3) e
    | .d (.bl false) => R (.d (.bl false)) ρ2
    | _ => False
  | _ => False) e) e
theorem snd_chain {c : Expr} {tc : TE} {rc : RE} {r r' : R2} {g g' : F2} (v : Bv2 G r g) (v' : Bv2 G r' g') (ha : SndE G E ta ra) (hb : SndE G E tb rb) (hc : SndE G E tc rc) : SndE G E (tChain r r' ta tb tc) (rChain g g' ra rb rc) := fun σ H ρ Γ Q R e re h q o =>
  ha σ H ρ Γ _ _ e re h (fun x s ρ1 H1 r1 h1 => hb σ H1 ρ1 _ _ _ e r1 h1 (fun y t ρ2 H2 r2 h2 => by
    cases t with
    | m _ _ => exact False.elim h2
    | d yd =>
      have r2' : Rep G.W σ H2 ρ2 ((y, .d yd) :: (x, s) :: (y, .d yd) :: Γ) := by
        have z : Rep G.W σ H2 ρ2 ((y, .d yd) :: (y, .d yd) :: (x, s) :: Γ) := r2.data (At.step (step_perm fun b hb => (owns_perm (perm_mid _ _ _)).mem_iff.mp hb) r2.head)
        exact z.perm (List.Perm.cons _ (List.Perm.swap _ _ _))
      refine v σ H2 ρ2 ((y, .d yd) :: Γ) x s y (.d yd) _ _ r2' h2 fun z w H3 r3 h3 => ?_
      try dsimp only at h3
      split at h3
      · have zz : At G.W H3 _ z (.bl true) := r3.head
        cases zz
        exact ⟨true, rfl, hc σ H3 ρ2 _ _ _ e r3.drop h3 (fun u wu ρ3 H4 r4 h4 => v' σ H4 ρ3 Γ y (.d yd) u wu Q _ r4 h4 fun v2 z2 H5 r5 h5 => q v2 z2 ρ3 H5 r5 h5) o.tail⟩
      · have zz : At G.W H3 _ z (.bl false) := r3.head
        cases zz
        exact ⟨false, rfl, q _ _ _ _ (r3.drop.drop.data (.bl false)) h3⟩
      · exact False.elim h3) o.tail) o
theorem de_chain {c : Expr} {tc : TE} {rc : RE} {op op' : CmpOp} {r r' : R2} {g g' : F2} (ho : OpR X (compareOp op) r) (ho' : OpR X (compareOp op') r') (v : Bv2 G r g) (v' : Bv2 G r' g') (ha : DE G E X a ta ra) (hb : DE G E X b tb rb) (hc : DE G E X c tc rc) (hm : lastMarks [op, op'] [b, c] = false := by with_unfolding_all rfl) :
    DE G E X (.Compare a [op, op'] [b, c] pos) (tChain r r' ta tb tc) (rChain g g' ra rb rc) := ⟨pe_chain ho ho' ha.p hb.p hc.p hm, snd_chain (c := c) v v' ha.s hb.s hc.s⟩
theorem dt_chain {c : Expr} {tc : TE} {rc : RE} {op op' : CmpOp} {r r' : R2} {g g' : F2} (ho : OpR X (compareOp op) r) (ho' : OpR X (compareOp op') r') (v : Bv2 G r g) (v' : Bv2 G r' g') (ha : DE G E X a ta ra) (hb : DE G E X b tb rb) (hc : DE G E X c tc rc) (hm : lastMarks [op, op'] [b, c] = false := by with_unfolding_all rfl) :
    DT G E X (.Compare a [op, op'] [b, c] pos) (tTest (tChain r r' ta tb tc)) (rTst (rChain g g' ra rb rc)) := ⟨pt_chain ho ho' ha.p hb.p hc.p hm, snd_tst (snd_chain (c := c) v v' ha.s hb.s hc.s)⟩
theorem bvLt : Bv2 G (rI0 fun i j => .bl (decide (i < j))) (lift2 (gI fun i j => .bl (decide (i < j)))) := bv2 (v_I fun _ _ _ _ => .bl _)
theorem bvLe : Bv2 G (rI0 fun i j => .bl (decide (i ≤ j))) (lift2 (gI fun i j => .bl (decide (i ≤ j)))) := bv2 (v_I fun _ _ _ _ => .bl _)
end
/-! ### slices -/
def cutD (xs : List D) (lo hi : Option Int) : List D := (xs.drop (HT.sIx xs.length 0 lo)).take (HT.sIx xs.length xs.length hi - HT.sIx xs.length 0 lo)
theorem AtL.cut {W : Wd} {H : Hp} {O : List Addr} {vs : List V} {ds : List D} (lo hi : Option Int) (h : AtL W H O vs ds) : AtL W H O (cutV vs lo hi) (cutD ds lo hi) := by
  unfold cutV cutD
  rw [h.length]
  exact (h.drop _).take _
def gCut (x : D) (lo hi : Option Int) (R : S → Prop) : Prop := match x with
  | .lst xs => ∀ p, R (.m p (.lst (cutD xs lo hi)))
  | .tup xs => (¬ (HT.sIx xs.length 0 lo = 0 ∧ HT.sIx xs.length xs.length hi = xs.length)) ∧ R (.d (.tup (cutD xs lo hi)))
  | .str z => R (.d (.str (cutS z lo hi)))
  | _ => False
def rSl3 (K : Frag) : V → Option Int → Option Int → Hp → VK → Prop := fun x lo hi H Q => rSlL K x lo hi H Q ∨ rSlT K x lo hi H Q ∨ rSlS x lo hi H Q
theorem okS_cut {z : Str} (h : okS z) (lo hi : Option Int) : okS (cutS z lo hi) := by
  refine ⟨Nat.le_trans (cutS_length z lo hi) h.1, ?_⟩
  have h2 := h.2
  unfold PyData.strOk at h2 ⊢
  rw [Array.all_eq_true'] at h2 ⊢
  intro x hx
  refine h2 x ?_
  have hx' : x ∈ (cutS z lo hi).cps.toList := Array.mem_toList_iff.mpr hx
  unfold cutS at hx'
  have : x ∈ z.cps.toList := by
    first
      | exact List.mem_of_mem_drop (List.mem_of_mem_take (by simpa using hx'))
      | (simp at hx'; exact List.mem_of_mem_drop (List.mem_of_mem_take hx'))
  exact Array.mem_toList_iff.mp this
theorem v_cut {W : Wd} {H : Hp} {O : List Addr} {v : V} {x : D} {lo hi : Option Int} {Q : VK} {R : S → Prop} (h : At W H O v x) (g : gCut x lo hi R) (q : Ret W H O Q R) : rSl3 W.K v lo hi H Q := by
  cases x with
  | lst xs =>
    cases h with
    | lst h1 n t => exact .inl ⟨_, _, rfl, .inl (.inl h1), fun p np => q.newL (t.cut lo hi) (g p) np⟩
  | tup xs =>
    cases h with
    | tup h1 t =>
      obtain ⟨vs, g1, g2⟩ := At.tuple (.tup h1 t)
      refine .inr (.inl ⟨_, vs, rfl, g1, ?_, fun p np => q.newT (g2.cut lo hi) g.2 np⟩)
      rw [g2.length]
      exact g.1
  | str z =>
    cases h with
    | str _ hz => exact .inr (.inr ⟨_, rfl, hz.1, q.here (.str _ (okS_cut hz lo hi)) g⟩)
  | _ => exact False.elim g
abbrev RO := Env → (Option Int → Env → Prop) → (XD → Prop) → Prop
def rNoPart : RO := fun ρ R _ => R none ρ
def rPart (r : RE) : RO := fun ρ R e => r ρ (fun s ρ' => match s with
  | .d (.int i) => R (some i) ρ'
  | _ => False) e
structure DO (G : Gw) (E : XK) (X : Cx) (e : Option Expr) (t : TO) (r : RO) : Prop where
  p : PO X e t
  s : ∀ σ H ρ Γ Q R e, Rep G.W σ H ρ Γ → r ρ R e → (∀ i ρ' H', Rep G.W σ H' ρ' Γ → R i ρ' → Q i H') → Out G E Γ e → t σ H Q
def rCut (r : RE) (rl rh : RO) : RE := fun ρ R e => r ρ (fun s ρ1 => rl ρ1 (fun lo ρ2 => rh ρ2 (fun hi ρ3 => match s.dat with
  | some x => gCut x lo hi fun z => R z ρ3
  | none => False) e) e) e
section
variable {G : Gw} {E : XK} {X : Cx} {k : Nat} {gq : Bool} {a b : Expr} {lo hi : Option Expr} {es : List Expr} {ta tb : TE} {ra rb : RE} {tl th : TO} {rl rh : RO} {pos p p2 : Pos}
theorem do_none : DO G E X none tNoPart rNoPart := ⟨po_none, fun σ H ρ Γ Q R e re hr q o => q _ _ _ re hr⟩
theorem do_some (h : DE G E X a ta ra) : DO G E X (some a) (tPart ta) (rPart ra) := ⟨po_some h.p, fun σ H ρ Γ Q R e re hr q o => h.s σ H ρ Γ _ _ e re hr (fun v s ρ' H' r' h' => by
  try dsimp only at h'
  split at h'
  · rename_i i
    have z : At G.W H' _ v (.int i) := r'.head
    cases z
    exact ⟨i, rfl, q _ _ _ r'.drop h'⟩
  · exact False.elim h') o⟩
theorem sl3 (c : Cq G X) : SlR X (rSl3 G.W.K) := by
  have z := (sl_list (X := X)).or (sl_tup.or sl_str)
  rw [c.K] at z
  exact z
theorem de_cut (c : Cq G X) (h : DE G E X a ta ra) (hl : DO G E X lo tl rl) (hh : DO G E X hi th rh) : DE G E X (.Subscript a (.Slice lo hi none p2) pos) (tSl (rSl3 G.W.K) ta tl th) (rCut ra rl rh) := ⟨pe_slice (sl3 c) h.p hl.p hh.p, fun σ H ρ Γ Q R e re hr q o =>
  h.s σ H ρ Γ _ _ e re hr (fun v s ρ1 H1 r1 h1 => hl.s σ H1 ρ1 _ _ _ e r1 h1 (fun l ρ2 H2 r2 h2 => hh.s σ H2 ρ2 _ _ _ e r2 h2 (fun u ρ3 H3 r3 h3 => by
    try dsimp only at h3
    split at h3
    · rename_i x hx
      have r4 := r3.dat hx
      have z : At G.W H3 _ v x := r4.head
      exact v_cut (O := owns (slots σ ρ3 ++ Γ)) (At.step (step_perm fun b hb => by rw [owns_cons]; exact hb) z) h3 (ret_of (R := fun z => R z ρ3) r4.drop fun v2 z2 H4 r5 h5 => q v2 z2 ρ3 H4 r5 h5)
    · exact False.elim h3) o.tail) o.tail) o⟩
end
end QL
set_option Elab.async false
set_option linter.all false
set_option maxRecDepth 100000
set_option maxHeartbeats 4000000
namespace L2
open PySem PySem.Spec PyProof.Rows PySem.XS
section
variable {X : Cx} {C : Addr} {f x : Str} {e : Expr} {ta : TA} {p pos : Pos}
/-- raise C(e), C a class that makes exceptions with the one field f -/
def tMkX (C : Addr) (f : Str) (ta : TA) : St → Hp → XK → Prop := fun σ H Q => ta σ H fun vs H1 => ∃ v, vs = [v] ∧ ∀ d, H1 d = none → Q (.ref C) (some d) (upd H1 d (.xd [(f, v)]))
theorem pmk_E (M : Makes X.prog X.w X.K X.mg C f fun v => ⟨[v], []⟩) (hr : Room 1 X.A) (hm : X.mg x = some (.ref C)) (hk : PySem.W.keepIn X.K (.ref C) = true) (hR : Raises X (.ref C)) (ha : PA X [e] ta) (hg : Gl X x := by rfl)
    (hs : starEach (e :: []) X.env = (false, eval e X.env) :: starEach [] X.env := by rfl) (hpl : (backTo pos (starEach [] X.env)).any (·.1) = false := by rfl) (hdb : (x == ("__debug__" : Str)) = false := by decide +kernel) :
    L2N.PMk X (.Call (.Name x p) [e] [] pos) (tMkX C f ta) := by
  intro pins s σ H Q I h
  refine wpAny_Call_Name_kw (ld_glob I hg hm ?_ hdb)
  refine PySem.W.callWith_K (h₀ := X.base) I.ok.mod.kin hk (thn (ha.run pos pins s σ H _ I h) fun us s1 hh => ?_) hs hpl
  obtain ⟨vs, H1, I1, r1, v, ev, q⟩ := hh
  subst ev
  refine ⟨I1.kIn, ?_⟩
  cases r1 with
  | cons r rn =>
    cases rn
    obtain ⟨mb, hmb, hbb⟩ := I1.mod.blt
    have hlim := I1.nolimit
    have hg := I1.mod.glob.keeps I1.bk
    have hb := hmb.keeps I1.bk
    have kin := I1.kIn
    obtain ⟨hp, g, dr, tk, os⟩ := s1
    refine wpAny_call (M X.A ⟨hp, g, dr, tk, os⟩ mb _ _ kin hg hb ((hbb _ (by decide +kernel)).trans (by decide +kernel)) hlim (by have := hr.dp; omega) fun h' tk' a d Z => ?_)
    obtain ⟨t1, ha⟩ := Z.obj
    obtain ⟨G, g1, g2⟩ := restrict h' fun b => decide (b ≠ a)
    have gk : ∀ b, b ≠ a → G.get? b = h'.get? b := fun b hb => g1 b (decide_eq_true hb)
    have ga : G.get? a = none := g2 a (by simp)
    have old : ∀ b o, hp.get? b = some o → G.get? b = some o := fun b o q => (gk b (Nat.ne_of_lt (Nat.lt_of_lt_of_le (Heap.lt_size q) Z.new))).trans (Z.keep b o q)
    have od : ObjOk X.prog X.w (upd H1 d (.xd [(f, v)])) G d (.xd [(f, v)]) := ⟨_, Z.ns.at fun o q => (gk d Z.dne).trans q, fun y => relO_one r⟩
    have J : Inv X pins σ (upd H1 d (.xd [(f, v)])) ⟨G, g, dr, tk', os⟩ := I1.laid (t' := tk') old Z.dbig od
    have na : H1 a = none := I1.hok.fresh Z.new
    have nd : H1 d = none := I1.hok.fresh Z.dbig
    refine ⟨a, _, _, ⟨G, g, dr, tk', os⟩, _, .ref C, some d, rfl, J, fun b o q => ?_, ga, ha, ⟨rfl, rfl, fun vs e => by cases e; rfl⟩, rfl, rfl, ?_, rfl, J.bare, hR, q d nd⟩
    · by_cases hb : b = a
      · have q' : G.get? b = some o := q
        rw [hb, ga] at q'
        cases q'
      · exact (gk b hb).symm.trans q
    · rw [upd_ne (Ne.symm Z.dne)]
      exact na
end
end L2
namespace QL
open PySem L2
open PySem.W (Frag)
/-- what the text says of an exception class: the i-th of the classes, with its field -/
structure ExcOk (G : Gw) (P : Program) (w : World) (mg : Str → Option Value) (i : Nat) (nm f : Str) : Prop where
  mak : PySem.XS.Makes P w G.W.K mg (G.W.CA i) f fun v => ⟨[v], []⟩
  g : mg nm = some (.ref (G.W.CA i))
  kp : PySem.W.keepIn G.W.K (.ref (G.W.CA i)) = true
  sb : PySem.W.subIn G.W.K (.ref (G.W.CA i)) (.type "BaseException") = some true
  ty : PySem.W.typeIn G.W.K (.ref (G.W.CA i)) = some (.type "type")
  xf : G.XF i = some f
def sRaise (i : Nat) (r : RE) : RS := fun d ρ => r ρ (fun s ρ' => match s.dat with
  | some x => d.ex (i, x)
  | none => False) d.ex
section
variable {G : Gw} {E : XK} {X : Cx} {k : Nat} {gq : Bool} {a b : Expr} {es : List Expr} {ta tb : TE} {ra rb : RE} {pos p p2 : Pos}
theorem ds_raise {i : Nat} {x f : Str} (c : Cn G E X (k + 1) gq) (M : ExcOk G X.prog X.w X.mg i x f) (h : DE G E X a ta ra) (hg : Gl X x := by rfl)
    (hs : starEach (a :: []) X.env = (false, eval a X.env) :: starEach [] X.env := by rfl) (hpl : (backTo pos (starEach [] X.env)).any (·.1) = false := by rfl) (hdb : (x == ("__debug__" : Str)) = false := by decide +kernel) :
    DS G E X (.Raise (some (.Call (.Name x p) [a] [] pos)) none p2) (fun _ σ H => tMkX (G.W.CA i) f (tCons ta tNil) σ H fun cls d H' => E cls d H') (sRaise i ra) := by
  refine ⟨L2N.ps_raise c.calm c.tk (pmk_E (by have z := M.mak; rw [← c.K] at z; exact z) (c.room.mono (by omega)) M.g (by rw [c.K]; exact M.kp) (raises_own (by rw [c.K]; exact M.sb) (by rw [c.K]; exact M.ty)) (pa_cons h.p pa_nil hs) hg hs hpl hdb), fun σ H ρ Γ D d re hr o => h.s σ H ρ Γ _ _ d.ex re hr (fun v s ρ' H' r' h' => ?_) o.ex⟩
  try dsimp only at h'
  split at h'
  · rename_i y hy
    have r2 := r'.dat hy
    refine ⟨v, rfl, fun dd nd => o.ex _ _ _ (i, y) ⟨r2.drop.low.grow (same_new nd), rfl, fun f' hf => ?_, fun z => by rw [M.xf] at z; cases z⟩ h'⟩
    rw [M.xf] at hf
    cases hf
    refine ⟨dd, v, rfl, upd_same, r2.drop.low.fresh nd, ?_⟩
    have z : At G.W H' _ v y := r2.head
    exact At.step ⟨fun b o _ e => same_new nd b o e, fun b hb => .inl (by rw [owns_cons, owns_app]; exact List.mem_append_right _ (List.mem_append_right _ hb))⟩ z
  · exact False.elim h'
/-! ### lists that are being made -/
/-- x.append(e) -/
def rApp (i : Nat) (r : RE) : RE := fun ρ R e => (∃ a xs, ρ[i]? = some (some (.m a (.lst xs)))) ∧ r ρ (fun s ρ1 => match ρ1[i]? with
  | some (some (.m a (.lst xs))) => match s.dat with
    | some y => xs.length < sizeLine ∧ R (.d .non) (ρ1.set i (some (.m a (.lst (xs ++ [y])))))
    | none => False
  | _ => False) e
theorem Rep.swap {W : Wd} {σ : L2.St} {H : Hp} {ρ : Env} {Γ : List It} {p q : It} (r : Rep W σ H ρ (p :: q :: Γ)) : Rep W σ H ρ (q :: p :: Γ) := r.perm (List.Perm.swap _ _ _)
theorem upd_step {H : Hp} {a : Addr} {o : HO} {O : List Addr} (h : a ∈ O) : Step H (upd H a o) O O := ⟨fun b u hb e => by rw [upd_ne (show b ≠ a from fun z => hb (by rw [z]; exact h))]; exact e, fun b hb => .inl hb⟩
/-- the list in a slot is written -/
theorem Rep.lset {W : Wd} {σ : L2.St} {H : Hp} {ρ : Env} {Γ : List It} {i : Nat} {a : Addr} {xs ys : List D} {vs : List V} (r : Rep W σ H ρ Γ) (e : ρ[i]? = some (some (.m a (.lst xs)))) (h : ∀ O, a ∈ O → (∀ b ∈ O, b ∈ owns (slots σ ρ ++ Γ)) → AtL W H O vs ys) :
    Rep W σ (upd H a (.lst vs)) (ρ.set i (some (.m a (.lst ys)))) Γ := by
  obtain ⟨v, hv, r1⟩ := r.lend e
  have ev : v = .ref a := r1.head.1
  subst ev
  have hi : i < ρ.length := (List.getElem?_eq_some_iff.mp e).1
  have o1 : ∀ b, b ∈ a :: owns (slots σ (ρ.set i none) ++ Γ) → b ∈ owns (slots σ ρ ++ Γ) := fun b hb => by
    have p := owns_perm ((slots_take hv e).append_right Γ)
    exact p.mem_iff.mpr hb
  have r2 := r1.write (m' := .lst ys) (o := .lst vs) lst_nc ⟨vs, upd_same, AtL.step (upd_step List.mem_cons_self) (h _ List.mem_cons_self o1)⟩
  have r3 := r2.give hv (List.getElem?_set_self hi)
  rw [List.set_set] at r3
  exact r3
theorem Rep.lget {W : Wd} {σ : L2.St} {H : Hp} {ρ : Env} {Γ : List It} {i : Nat} {a : Addr} {xs : List D} (r : Rep W σ H ρ Γ) (e : ρ[i]? = some (some (.m a (.lst xs)))) : σ[i]? = some (some (.ref a)) ∧ ∃ vs, H a = some (.lst vs) ∧ AtL W H (owns (slots σ ρ ++ Γ)) vs xs := by
  obtain ⟨v, hv, r1⟩ := r.lend e
  obtain ⟨ev, vs, h1, h2⟩ := r1.head
  have ev : v = .ref a := ev
  subst ev
  refine ⟨hv, vs, h1, AtL.step (step_perm fun b hb => ?_) h2⟩
  have p := owns_perm ((slots_take hv e).append_right Γ)
  exact p.mem_iff.mp hb
theorem mtK {X : Cx} {id : String} {r : V → List V → Hp → VK → Prop} (h : MtM X id r) : MtR X id r := h
theorem de_append (c : Cq G X) (i : Nat) {x : Str} {apos cpos : Pos} (h : DE G E X a ta ra) (hN : X.N[i]? = some x := by rfl) (hv : Vis X.env.scope x := by first | exact Or.inl rfl | exact Or.inr (Or.inl rfl) | exact Or.inr (Or.inr rfl)) (hd : (x == ("__debug__" : Str)) = false := by decide) (hcd : (x == ("__classdict__" : Str)) = false := by decide)
    (hbase : attributeBase (.Name x p) "append" X.env (eval (.Name x p) X.env) = eval (.Name x p) X.env := by rfl)
    (hfew : ((backTo cpos (starEach (a :: []) X.env)).all (fun x => !x.1) && (backToKw cpos (keywordEach [] X.env)).all (fun x => x.1.isSome) && decide ((a :: []).length + ([] : List Keyword).length + (if ([] : List Keyword).isEmpty then 0 else 1) < 30)) = true := by rfl)
    (hline : (apos.endLine == cpos.line) = true := by rfl) (hs : starEach (a :: []) X.env = (false, eval a X.env) :: starEach [] X.env := by rfl) (hplain : (backTo cpos (starEach [] X.env)).any (·.1) = false := by rfl) :
    DE G E X (.Call (.Attribute (.Name x p) "append" apos) [a] [] cpos) (tBM G.W.K "list" rAppend (tVar i) (tCons ta tNil)) (rApp i ra) := by
  refine ⟨?_, fun σ H ρ Γ Q R e re hr q o => ?_⟩
  · have z := pe_bm PySem.F.plainAttrs_list PySem.F.slot_list_append PySem.F.type_list_append (mtK mt_append) (pe_var (pos := p) hN hv hd hcd) (pa_cons h.p pa_nil hs) hbase hfew hline hs hplain
    rw [c.K] at z
    exact z
  · obtain ⟨⟨a0, xs0, h0⟩, hr⟩ := hr
    obtain ⟨hv0, vs0, g0, _⟩ := re.lget h0
    refine ⟨_, hv0, .inl ⟨rfl, _, .inl (.inl g0)⟩, ?_⟩
    refine h.s σ H ρ Γ _ _ e re hr (fun v s ρ1 H1 r1 h1 => ?_) o
    try dsimp only at h1
    split at h1
    · rename_i a1 xs1 hm
      split at h1
      · rename_i y hy
        have r2 := r1.dat hy
        obtain ⟨hv1, vs1, g1, g2⟩ := r2.lget hm
        rw [hv0] at hv1
        cases hv1
        refine ⟨a0, vs1, v, rfl, rfl, g1, by rw [g2.length]; exact h1.1, ?_⟩
        have zy : At G.W H1 (owns (slots σ ρ1 ++ (v, S.d y) :: Γ)) v y := At.step (step_perm fun b hb => (owns_perm (perm_mid _ _ _)).mem_iff.mp hb) (show At G.W H1 _ v y from r2.head)
        have r3 := r2.lset (ys := xs1 ++ [y]) (vs := vs1 ++ [v]) hm fun O _ ho => AtL.step (step_perm ho) (g2.app (.cons zy .nil))
        exact q _ _ _ _ (r3.drop.data .non) h1.2
      · exact False.elim h1
    · exact False.elim h1
end
end QL
set_option Elab.async false
set_option linter.all false
set_option maxRecDepth 100000
set_option maxHeartbeats 4000000
namespace QL
open PySem L2
open PySem.W (Frag)
/-! ### what is being made, looked at in place -/
section
variable {W : Wd} {σ : L2.St} {H : Hp} {ρ : Env} {Γ : List It} {i : Nat} {a : Addr} {m : M} {x : D}
/-- a thing being made, as a datum over what else is owned -/
theorem Rep.peek (r : Rep W σ H ρ Γ) (e : ρ[i]? = some (some (.m a m))) (t : m.toD a = some x) : σ[i]? = some (some (.ref a)) ∧ At W H (owns (slots σ (ρ.set i none) ++ Γ)) (.ref a) x ∧
    (∀ b, b ∈ owns (slots σ (ρ.set i none) ++ Γ) → b ∈ owns (slots σ ρ ++ Γ)) ∧ ∀ b ∈ owns (slots σ (ρ.set i none) ++ Γ), ∃ o, H b = some o ∧ Mut (some o) := by
  obtain ⟨v, hv, r1⟩ := r.lend e
  have ev : v = .ref a := r1.head.1
  subst ev
  have p := owns_perm ((slots_take hv e).append_right Γ)
  have nd : (a :: owns (slots σ (ρ.set i none) ++ Γ)).Nodup := (p.nodup_iff.mp r.hold.nd : (owns (((V.ref a, S.m a m) :: slots σ (ρ.set i none)) ++ Γ)).Nodup)
  refine ⟨hv, M.data r1.head.2 t (List.nodup_cons.mp nd).1 fun b hb => ?_, fun b hb => p.mem_iff.mpr (List.mem_cons_of_mem _ hb), fun b hb => r.hold.own_there (p.mem_iff.mpr (List.mem_cons_of_mem _ hb))⟩
  exact List.mem_cons_of_mem _ hb
end
/-- s op x, x a slot that may be being made; the answer is a truth -/
def rBinV (g : G2) (i : Nat) (ra : RE) : RE := fun ρ R e => (∃ s, ρ[i]? = some (some s)) ∧ ra ρ (fun s ρ1 => match s.dat with
  | some y => match ρ1[i]? with
    | some (some t) => match t.dat with
      | some x => g y x fun z => match z with
        | .d (.bl b) => R (.d (.bl b)) ρ1
        | _ => False
      | none => False
    | _ => False
  | none => False) e
section
variable {G : Gw} {E : XK} {X : Cx} {k : Nat} {gq : Bool} {a b : Expr} {es : List Expr} {ta tb : TE} {ra rb : RE} {pos p p2 : Pos}
theorem Rep.look {W : Wd} {σ : L2.St} {H : Hp} {ρ : Env} {Γ : List It} {i : Nat} {t : S} {x : D} (r : Rep W σ H ρ Γ) (e : ρ[i]? = some (some t)) (ht : t.dat = some x) : ∃ v O, σ[i]? = some (some v) ∧ At W H O v x ∧ (∀ b, b ∈ O → b ∈ owns (slots σ ρ ++ Γ)) ∧ ∀ b ∈ O, ∃ o, H b = some o ∧ Mut (some o) := by
  cases t with
  | d y =>
    cases ht
    obtain ⟨v, hv, r'⟩ := r.read e
    refine ⟨v, owns (slots σ ρ ++ Γ), hv, ?_, fun _ h => h, fun b hb => r.hold.own_there hb⟩
    exact At.step (step_perm fun b hb => (owns_perm (perm_mid _ _ _)).mem_iff.mp (by rw [owns_app]; exact (by rw [owns_app] at hb; exact hb))) r'.head
  | m a m =>
    obtain ⟨h1, h2, h3, h4⟩ := r.peek e ht
    exact ⟨_, _, h1, h2, h3, h4⟩
theorem snd_binV {i : Nat} {r : R2} {g : G2} (v : Val2 G.W r g) (ha : SndE G E ta ra) : SndE G E (tOp r ta (tVar i)) (rBinV g i ra) := fun σ H ρ Γ Q R e re hr q o => by
  obtain ⟨⟨s0, h0⟩, hr⟩ := hr
  refine ha σ H ρ Γ _ _ e re hr (fun x s ρ1 H1 r1 h1 => ?_) o
  try dsimp only at h1
  split at h1
  · rename_i y hy
    have r2 := r1.dat hy
    split at h1
    · rename_i t hm
      split at h1
      · rename_i xd hx
        obtain ⟨vv, O, hv, hat, hsub, hfr⟩ := r2.look hm hx
        refine ⟨vv, hv, ?_⟩
        have zy : At G.W H1 O x y := At.step (step_perm fun b hb => (owns_perm (perm_mid _ _ _)).mem_iff.mp (hsub b hb)) (show At G.W H1 _ x y from r2.head)
        refine v H1 O x y vv xd Q _ zy hat h1 ⟨fun v' x' H' k' a' h' => ?_, fun p m H' _ _ _ _ h' => ?_, hfr⟩
        · cases x' with
          | bl b =>
            cases a'
            exact q _ _ _ _ ((r2.grow k').drop.data (.bl b)) h'
          | _ => exact False.elim h'
        · exact False.elim h'
      · exact False.elim h1
    · exact False.elim h1
  · exact False.elim h1
theorem de_inV (c : Cq G X) (i : Nat) {x : Str} (ha : DE G E X a ta ra) (hN : X.N[i]? = some x := by rfl) (hv : Vis X.env.scope x := by first | exact Or.inl rfl | exact Or.inr (Or.inl rfl) | exact Or.inr (Or.inr rfl)) (hd : (x == ("__debug__" : Str)) = false := by decide) (hcd : (x == ("__classdict__" : Str)) = false := by decide) (hm : behindInMarks .In (.Name x p) = false := by rfl) :
    DE G E X (.Compare a [.In] [.Name x p] pos) (tOp (rIn3 G.W.K false) ta (tVar i)) (rBinV (gIn false) i ra) := ⟨pe_cmpR (opIn c) ha.p (pe_var hN hv hd hcd) hm, snd_binV v_in ha.s⟩
theorem de_notInV (c : Cq G X) (i : Nat) {x : Str} (ha : DE G E X a ta ra) (hN : X.N[i]? = some x := by rfl) (hv : Vis X.env.scope x := by first | exact Or.inl rfl | exact Or.inr (Or.inl rfl) | exact Or.inr (Or.inr rfl)) (hd : (x == ("__debug__" : Str)) = false := by decide) (hcd : (x == ("__classdict__" : Str)) = false := by decide) (hm : behindInMarks .NotIn (.Name x p) = false := by rfl) :
    DE G E X (.Compare a [.NotIn] [.Name x p] pos) (tOp (rIn3 G.W.K true) ta (tVar i)) (rBinV (gIn true) i ra) := ⟨pe_cmpR (opNotIn c) ha.p (pe_var hN hv hd hcd) hm, snd_binV v_in ha.s⟩
theorem dt_inV (c : Cq G X) (i : Nat) {x : Str} (ha : DE G E X a ta ra) (hN : X.N[i]? = some x := by rfl) (hv : Vis X.env.scope x := by first | exact Or.inl rfl | exact Or.inr (Or.inl rfl) | exact Or.inr (Or.inr rfl)) (hd : (x == ("__debug__" : Str)) = false := by decide) (hcd : (x == ("__classdict__" : Str)) = false := by decide) (hm : behindInMarks .In (.Name x p) = false := by rfl) :
    DT G E X (.Compare a [.In] [.Name x p] pos) (tTest (tOp (rIn3 G.W.K false) ta (tVar i))) (rTst (rBinV (gIn false) i ra)) := ⟨pt_cmpR (opIn c) ha.p (pe_var hN hv hd hcd) hm, snd_tst (snd_binV v_in ha.s)⟩
theorem dt_notInV (c : Cq G X) (i : Nat) {x : Str} (ha : DE G E X a ta ra) (hN : X.N[i]? = some x := by rfl) (hv : Vis X.env.scope x := by first | exact Or.inl rfl | exact Or.inr (Or.inl rfl) | exact Or.inr (Or.inr rfl)) (hd : (x == ("__debug__" : Str)) = false := by decide) (hcd : (x == ("__classdict__" : Str)) = false := by decide) (hm : behindInMarks .NotIn (.Name x p) = false := by rfl) :
    DT G E X (.Compare a [.NotIn] [.Name x p] pos) (tTest (tOp (rIn3 G.W.K true) ta (tVar i))) (rTst (rBinV (gIn true) i ra)) := ⟨pt_cmpR (opNotIn c) ha.p (pe_var hN hv hd hcd) hm, snd_tst (snd_binV v_in ha.s)⟩
/-- len(x), x a slot -/
def rLenV (i : Nat) : RE := fun ρ R _ => match ρ[i]? with
  | some (some t) => match t.dat with
    | some x => gLen [x] fun z => match z with
      | .d (.int n) => R (.d (.int n)) ρ
      | _ => False
    | none => False
  | _ => False
theorem de_lenV (c : Cq G X) (T : Bn X.mg) (i : Nat) {x : Str} (hN : X.N[i]? = some x := by rfl) (hv : Vis X.env.scope x := by first | exact Or.inl rfl | exact Or.inr (Or.inl rfl) | exact Or.inr (Or.inr rfl)) (hd : (x == ("__debug__" : Str)) = false := by decide) (hcd : (x == ("__classdict__" : Str)) = false := by decide)
    (hg : Gl X "len" := by rfl) (he : starEach [.Name x p2] X.env = (false, eval (.Name x p2) X.env) :: starEach [] X.env := by rfl) (hpl : (backTo pos (starEach [] X.env)).any (·.1) = false := by rfl) :
    DE G E X (.Call (.Name "len" p) [.Name x p2] [] pos) (tCB (rLen3 G.W.K) (tCons (tVar i) tNil)) (rLenV i) := ⟨pe_callB (callLen c) hg T.len (by decide +kernel) (pa_cons (pe_var hN hv hd hcd) pa_nil he) (by decide) (by decide) he hpl, fun σ H ρ Γ Q R e re hr q o => by
  unfold rLenV at hr
  split at hr
  · rename_i t hm
    split at hr
    · rename_i xd hx
      obtain ⟨vv, O, hv, hat, hsub, hfr⟩ := re.look hm hx
      refine ⟨vv, hv, ?_⟩
      refine v_len H O [vv] [xd] Q _ (.cons hat .nil) hr ⟨fun v' x' H' k' a' h' => ?_, fun p m H' _ _ _ _ h' => ?_, hfr⟩
      · cases x' with
        | int n =>
          cases a'
          exact q _ _ _ _ ((re.grow k').data (.int n)) h'
        | _ => exact False.elim h'
      · exact False.elim h'
    · exact False.elim hr
  · exact False.elim hr⟩
/-- x[e], x a slot -/
def rItemV (i : Nat) (rb : RE) : RE := fun ρ R e => (∃ s, ρ[i]? = some (some s)) ∧ rb ρ (fun t ρ1 => match ρ1[i]?, t with
  | some (some (.m _ (.lst xs))), .d (.int j) => optP (atI xs j) fun d => R (.d d) ρ1
  | some (some (.d (.lst xs))), .d (.int j) => optP (atI xs j) fun d => R (.d d) ρ1
  | some (some (.d (.tup xs))), .d (.int j) => optP (atI xs j) fun d => R (.d d) ρ1
  | some (some (.d (.str z))), .d (.int j) => optP (atI z.cps.toList j) fun c => R (.d (.str ⟨#[c]⟩)) ρ1
  | _, _ => False) e
theorem de_itemV (c : Cq G X) (i : Nat) {x : Str} (hb : DE G E X b tb rb) (hN : X.N[i]? = some x := by rfl) (hv : Vis X.env.scope x := by first | exact Or.inl rfl | exact Or.inr (Or.inl rfl) | exact Or.inr (Or.inr rfl)) (hd : (x == ("__debug__" : Str)) = false := by decide) (hcd : (x == ("__classdict__" : Str)) = false := by decide) (hs : PlainIx b := by exact fun _ _ => rfl) :
    DE G E X (.Subscript (.Name x p) b pos) (tOp (rIx G.W.K) (tVar i) tb) (rItemV i rb) := ⟨pe_ix (ixK c.K) (pe_var hN hv hd hcd) hb.p hs, fun σ H ρ Γ Q R e re hr q o => by
  obtain ⟨⟨s0, h0⟩, hr⟩ := hr
  obtain ⟨v0, hv0⟩ := re.hs i s0 h0
  refine ⟨v0, hv0, ?_⟩
  refine hb.s σ H ρ Γ _ _ e re hr (fun y t ρ1 H1 r1 h1 => ?_) o
  have fin : ∀ {dx : D} {j : Int}, ρ1[i]? = some (some (.d dx)) → t = .d (.int j) → gIx dx (.int j) (fun z => R z ρ1) → rIx G.W.K v0 y H1 Q := fun {dx j} hm et hg => by
    subst et
    have zz : At G.W H1 _ y (.int j) := r1.head
    cases zz
    obtain ⟨vv, hv1, r2⟩ := r1.read hm
    rw [hv0] at hv1
    cases hv1
    have a2 : At G.W H1 (owns (slots σ ρ1 ++ Γ)) v0 dx := At.step (step_perm fun b hb => by rw [owns_cons, owns_app]; rw [owns_app] at hb; exact hb) r2.head
    exact v_ix H1 (owns (slots σ ρ1 ++ Γ)) v0 dx (.int j) (.int j) Q (fun z => R z ρ1) a2 (.int _) hg (ret_of r1.drop fun v2 z2 H4 r5 h5 => q v2 z2 ρ1 H4 r5 h5)
  try dsimp only at h1
  split at h1
  · rename_i a0 xs j hm
    obtain ⟨d, hd, h1⟩ := opt_get h1
    have zz : At G.W H1 _ y (.int j) := r1.head
    cases zz
    obtain ⟨hv1, vs1, g1, g2⟩ := r1.lget hm
    rw [hv0] at hv1
    cases hv1
    obtain ⟨v, g3, g4⟩ := g2.atI hd
    exact .inl ⟨_, vs1, _, v, rfl, rfl, .inl (.inl g1), g3, q _ _ _ _ (r1.data g4).drop2 h1⟩
  · rename_i xs j hm
    exact fin hm rfl h1
  · rename_i xs j hm
    exact fin hm rfl h1
  · rename_i xs j hm
    exact fin hm rfl h1
  · exact False.elim h1⟩
/-! ### a, b = x, y -/
def sPar (i j : Nat) (r : RA) : RS := fun d ρ => r ρ (fun ss ρ' => match ss with
  | [s, t] => (i < ρ'.length ∧ j < ρ'.length) ∧ d.nx ((ρ'.set i (some s)).set j (some t))
  | _ => False) d.ex
theorem ds_par {i j : Nat} {x y : Str} {t : TA} {r : RA} {px py pt : Pos} {kt k2 pt2} (c : Cn G E X k gq) (ha : DA G E X [a, b] t r) (hij : i ≠ j := by decide) (hi : X.N[i]? = some x := by rfl) (hj : X.N[j]? = some y := by rfl)
    (hx : X.env.scope.names.lookup x = some .local := by rfl) (hy : X.env.scope.names.lookup y = some .local := by rfl)
    (hw : swappedStores [.Tuple [.Name x px, .Name y py] kt pt] (.Tuple [a, b] k2 pt2) X.env = pure (some [x, y]) := by rfl)
    (hs : swapsWithSole [.Tuple [.Name x px, .Name y py] kt pt] (.Tuple [a, b] k2 pt2) pos.line X.env = pure false := by rfl) :
    DS G E X (.Assign [.Tuple [.Name x px, .Name y py] kt pt] (.Tuple [a, b] k2 pt2) pos) (tPar i j t) (sPar i j r) := ⟨ps_par c.calm c.nd hi hj hij hx hy ha.p hw hs, fun σ H ρ Γ D d re hr o => ha.s σ H ρ Γ _ _ d.ex re hr (fun vs ss ρ' H' hl r' h' => by
  try dsimp only at h'
  split at h'
  · rename_i s t
    match vs, hl, r' with
    | [v, w], _, r' =>
      refine ⟨v, w, rfl, o.nx _ _ _ ?_ h'.2⟩
      have r2 : Rep G.W σ H' ρ' ((v, s) :: (w, t) :: Γ) := r'
      have r3 := r2.set (i := i) h'.1.1
      exact r3.set (i := j) (by rw [List.length_set]; exact h'.1.2)
  · exact False.elim h') o.ex⟩
end
end QL
set_option Elab.async false
set_option linter.all false
set_option maxRecDepth 100000
set_option maxHeartbeats 4000000
namespace QL
open PySem L2
open PySem.W (Frag)
/-! ### sep.join(xs) -/
def strsD : List D → Option (List Str)
  | [] => some []
  | .str z :: xs => match strsD xs with
    | some zs => some (z :: zs)
    | none => none
  | _ :: _ => none
theorem strs_at {W : Wd} {H : Hp} {O : List Addr} : ∀ {vs : List V} {ds : List D} {zs : List Str}, AtL W H O vs ds → strsD ds = some zs → vs = zs.map V.str ∧ ∀ z ∈ zs, okS z
  | _, _, _, .nil, e => by cases e; exact ⟨rfl, fun z hz => by cases hz⟩
  | _, _, _, .cons a t, e => by
    rename_i zs v d vs ds
    cases d with
    | str z =>
      unfold strsD at e
      split at e
      · rename_i zs' hb
        cases e
        cases a with
        | str _ hz =>
          obtain ⟨h1, h2⟩ := strs_at t hb
          rw [h1]
          exact ⟨rfl, fun y hy => (List.mem_cons.mp hy).elim (fun q => q ▸ hz) (h2 y)⟩
      · cases e
    | _ => cases e
theorem okS_join {a : Str} (ha : okS a) : ∀ {ys : List Str}, (∀ z ∈ ys, okS z) → PyData.strOk (Str.join a ys) = true
  | [], _ => by
    show PyData.strOk Str.empty = true
    decide +kernel
  | [x], h => (h x List.mem_cons_self).2
  | x :: y :: r, h => by
    have h1 := (h x List.mem_cons_self).2
    have h2 := ha.2
    have h3 := okS_join ha (ys := y :: r) fun z hz => h z (List.mem_cons_of_mem _ hz)
    show PyData.strOk (x ++ a ++ Str.join a (y :: r)) = true
    unfold PyData.strOk at h1 h2 h3 ⊢
    rw [Array.all_eq_true'] at h1 h2 h3 ⊢
    intro c hc
    have hc : c ∈ (x.cps ++ a.cps) ++ (Str.join a (y :: r)).cps := hc
    rcases Array.mem_append.mp hc with z | z
    · rcases Array.mem_append.mp z with z | z
      · exact h1 c z
      · exact h2 c z
    · exact h3 c z
theorem len_join (a : Str) : ∀ ys : List Str, (Str.join a ys).length ≤ (ys.map (·.length)).sum + ys.length * a.length
  | [] => Nat.zero_le _
  | [x] => by
    show x.length ≤ _
    simp only [List.map_cons, List.map_nil, List.sum_cons, List.sum_nil, List.length_cons, List.length_nil]
    omega
  | x :: y :: r => by
    have ih := len_join a (y :: r)
    show (x ++ a ++ Str.join a (y :: r)).length ≤ _
    rw [Str.length_append, Str.length_append]
    simp only [List.map_cons, List.sum_cons, List.length_cons, Nat.add_mul, Nat.one_mul] at ih ⊢
    omega
def rJoin (ra rb : RE) : RE := fun ρ R e => ra ρ (fun s ρ1 => match s with
  | .d (.str a) => rb ρ1 (fun t ρ2 => match t.dat with
    | some (.lst xs) => optP (strsD xs) fun zs => (zs.map (·.length)).sum + zs.length * a.length ≤ 16777216 ∧ R (.d (.str (Txt.join a zs))) ρ2
    | some (.tup xs) => optP (strsD xs) fun zs => (zs.map (·.length)).sum + zs.length * a.length ≤ 16777216 ∧ R (.d (.str (Txt.join a zs))) ρ2
    | _ => False) e
  | _ => False) e
section
variable {G : Gw} {E : XK} {X : Cx} {k : Nat} {gq : Bool} {a b : Expr} {es : List Expr} {ta tb : TE} {ra rb : RE} {pos p p2 apos : Pos}
theorem de_join (c : Cq G X) (ha : DE G E X a ta ra) (hb : DE G E X b tb rb) (hs : starEach [b] X.env = [(false, eval b X.env)] := by rfl) (hbase : attributeBase a "join" X.env (eval a X.env) = eval a X.env := by rfl) (hline : (apos.endLine == pos.line) = true := by rfl) :
    DE G E X (.Call (.Attribute a "join" apos) [b] [] pos) (tM1 (fun x xs H Q => ∃ a p, ∃ ys : List Str, x = .str a ∧ xs = [.ref p] ∧ (SqL G.W.K H p (ys.map V.str) ∨ SqT G.W.K H p (ys.map V.str)) ∧
      (ys.map (·.length)).sum + ys.length * a.length ≤ 16777216 ∧ Q (.str (Txt.join a ys)) H) ta tb) (rJoin ra rb) := by
  refine ⟨?_, fun σ H ρ Γ Q R e re hr q o => ha.s σ H ρ Γ _ _ e re hr (fun v s ρ1 H1 r1 h1 => ?_) o⟩
  · have z := pe_join (apos := apos) (pos := pos) ha.p hb.p hs hbase hline
    rw [c.K] at z
    exact z
  · try dsimp only at h1
    split at h1
    · rename_i z
      have zz : At G.W H1 _ v (.str z) := r1.head
      cases zz with
      | str _ hz =>
        refine ⟨⟨z, rfl⟩, hb.s σ H1 ρ1 _ _ _ e r1 h1 (fun w t ρ2 H2 r2 h2 => ?_) o.tail⟩
        have fin : ∀ {xs zs}, AtL G.W H2 (owns ((w, t) :: (slots σ ρ2 ++ (V.str z, S.d (.str z)) :: Γ))) xs zs → True := fun _ => trivial
        try dsimp only at h2
        split at h2
        · rename_i xs hx
          · obtain ⟨zs, hzs, h2⟩ := opt_get h2
            have r3 := r2.dat hx
            have z3 : At G.W H2 _ w (.lst xs) := r3.head
            cases z3 with
            | lst g1 g2 g3 =>
              obtain ⟨e1, e2⟩ := strs_at g3 hzs
              subst e1
              refine ⟨z, _, zs, rfl, rfl, .inl (.inl (.inl g1)), h2.1, q _ _ _ _ (r3.drop.drop.data (.str _ ⟨?_, ?_⟩)) h2.2⟩
              · rw [TL.join_eq]
                exact Nat.le_trans (len_join z zs) (by rw [sizeLine_eq]; exact h2.1)
              · rw [TL.join_eq]
                exact okS_join hz e2
        · rename_i xs hx
          · obtain ⟨zs, hzs, h2⟩ := opt_get h2
            have r3 := r2.dat hx
            have z3 : At G.W H2 _ w (.tup xs) := r3.head
            cases z3 with
            | tup g1 g3 =>
              obtain ⟨e1, e2⟩ := strs_at g3 hzs
              subst e1
              refine ⟨z, _, zs, rfl, rfl, .inr (At.sqT g1), h2.1, q _ _ _ _ (r3.drop.drop.data (.str _ ⟨?_, ?_⟩)) h2.2⟩
              · rw [TL.join_eq]
                exact Nat.le_trans (len_join z zs) (by rw [sizeLine_eq]; exact h2.1)
              · rw [TL.join_eq]
                exact okS_join hz e2
        · exact False.elim h2
    · exact False.elim h1
/-! ### x[j] = e, x.pop(j) -/
def sSetIx (i : Nat) (rv rj : RE) : RS := fun d ρ => rv ρ (fun s ρ1 => (∃ t, ρ1[i]? = some (some t)) ∧ rj ρ1 (fun t ρ2 => match ρ2[i]?, s.dat, t with
  | some (some (.m a (.lst xs))), some y, .d (.int j) => optP (ixN xs.length j) fun n => d.nx (ρ2.set i (some (.m a (.lst (xs.set n y)))))
  | _, _, _ => False) d.ex) d.ex
theorem ds_setIx (c : Cq G X) (i : Nat) {x : Str} (hv : DE G E X a ta ra) (hj : DE G E X b tb rb) (hN : X.N[i]? = some x := by rfl) (hvis : Vis X.env.scope x := by first | exact Or.inl rfl | exact Or.inr (Or.inl rfl) | exact Or.inr (Or.inr rfl)) (hd : (x == ("__debug__" : Str)) = false := by decide) (hcd : (x == ("__classdict__" : Str)) = false := by decide)
    (has : ∀ v, assign (.Subscript (.Name x p) b p2) X.env v = (do
      let ov ← holding [v] (eval (.Name x p) X.env)
      let iv ← holding [v, ov] (eval b X.env)
      standAt p2
      holding [v, ov, iv] (setItem ov iv v)
      release [v, ov, iv] []) := by intro _; rfl) (hs : swapsWithSole [.Subscript (.Name x p) b p2] a pos.line X.env = pure false := by rfl) (hw : swappedStores [.Subscript (.Name x p) b p2] a X.env = pure none := by rfl)
    (h1 : (assignEach [.Subscript (.Name x p) b p2] X.env).map (·.2) = [assign (.Subscript (.Name x p) b p2) X.env] := by rfl) :
    DS G E X (.Assign [.Subscript (.Name x p) b p2] a pos) (tAsg ta (gSub (tVar i) tb rSetL)) (sSetIx i ra rb) := ⟨ps_asg hv.p (pg_sub (pe_var hN hvis hd hcd) hj.p set_list has) hs hw h1, fun σ H ρ Γ D d re hr o => hv.s σ H ρ Γ _ _ d.ex re hr (fun v s ρ1 H1 r1 h1 => by
  obtain ⟨⟨t0, h0⟩, h1⟩ := h1
  obtain ⟨v0, hv0⟩ := r1.hs i t0 h0
  refine ⟨v0, hv0, ?_⟩
  refine hj.s σ H1 ρ1 _ _ _ d.ex r1 h1 (fun w t ρ2 H2 r2 h2 => ?_) o.ex.tail
  try dsimp only at h2
  split at h2
  · rename_i a0 xs y j hm hy
    · obtain ⟨n, hn, h2⟩ := opt_get h2
      have zz : At G.W H2 _ w (.int j) := r2.head
      cases zz
      have r3 := (r2.drop).dat hy
      obtain ⟨hv1, vs1, g1, g2⟩ := r3.lget hm
      rw [hv0] at hv1
      cases hv1
      have zy : At G.W H2 (owns (slots σ ρ2 ++ (v, S.d y) :: Γ)) v y := At.step (step_perm fun b hb => (owns_perm (perm_mid _ _ _)).mem_iff.mp hb) (show At G.W H2 _ v y from r3.head)
      refine ⟨a0, vs1, j, n, rfl, rfl, g1, by rw [g2.length]; exact hn, o.nx _ _ _ ?_ h2⟩
      exact (r3.lset (ys := xs.set n y) (vs := vs1.set n v) hm fun O _ ho => AtL.step (step_perm ho) (AtL.set zy n g2)).drop
  · exact False.elim h2) o.ex⟩
def rPopV (i : Nat) (rj : RE) : RE := fun ρ R e => (∃ a xs, ρ[i]? = some (some (.m a (.lst xs)))) ∧ rj ρ (fun t ρ1 => match ρ1[i]?, t with
  | some (some (.m a (.lst xs))), .d (.int j) => (-(2 ^ 63) ≤ j ∧ j < 2 ^ 63) ∧ match seqIndex? j xs.length with
    | some n => match xs[n]? with
      | some y => R (.d y) (ρ1.set i (some (.m a (.lst (xs.eraseIdx n)))))
      | none => False
    | none => False
  | _, _ => False) e
end
/-! ### dicts that are being made -/
def ksPut {κ : Type} [DecidableEq κ] (ks : List κ) (k : κ) : List κ := if k ∈ ks then ks else ks ++ [k]
def putG {κ α : Type} [DecidableEq κ] (ks : List κ) (xs : List α) (k : κ) (y : α) : List α := if k ∈ ks then (ks.zip xs).map fun p => if p.1 = k then y else p.2 else xs ++ [y]
theorem any_mem {κ α : Type} [DecidableEq κ] (k : κ) : ∀ (ks : List κ) (vs : List α), ks.length = vs.length → ((ks.zip vs).any fun kv => decide (kv.1 = k)) = decide (k ∈ ks)
  | [], [], _ => rfl
  | k0 :: ks, v :: vs, h => by
    rw [List.zip_cons_cons, List.any_cons, any_mem k ks vs (by simpa using h)]
    by_cases e : k0 = k
    · subst e; simp
    · by_cases e2 : k ∈ ks
      · simp [e, e2]
      · have : ¬ k = k0 := fun z => e z.symm
        simp [e, e2, this]
  | [], _ :: _, h => by simp at h
  | _ :: _, [], h => by simp at h
theorem zip_map_put {κ α : Type} [DecidableEq κ] (k : κ) (y : α) : ∀ (ks : List κ) (vs : List α), (ks.zip vs).map (fun kv => if kv.1 = k then (kv.1, y) else kv) = ks.zip ((ks.zip vs).map fun p => if p.1 = k then y else p.2)
  | [], _ => rfl
  | _ :: _, [] => rfl
  | k0 :: ks, v :: vs => by
    rw [List.zip_cons_cons, List.map_cons, List.map_cons, List.zip_cons_cons, zip_map_put k y ks vs]
    by_cases e : k0 = k <;> simp [e]
theorem putK_zip {κ : Type} [DecidableEq κ] {ks : List κ} {vs : List V} (hl : ks.length = vs.length) (k : κ) (v : V) : putK (ks.zip vs) k v = (ksPut ks k).zip (putG ks vs k v) := by
  unfold putK ksPut putG
  rw [any_mem k ks vs hl]
  by_cases h : k ∈ ks
  · rw [if_pos h, if_pos h]
    simp only [h, decide_true, if_true]
    exact zip_map_put k v ks vs
  · rw [if_neg h, if_neg h]
    simp only [h, decide_false, Bool.false_eq_true, if_false]
    rw [List.zip_append hl]
    rfl
theorem putG_len {κ α : Type} [DecidableEq κ] {ks : List κ} {vs : List α} (hl : ks.length = vs.length) (k : κ) (v : α) : (ksPut ks k).length = (putG ks vs k v).length := by
  unfold ksPut putG
  by_cases h : k ∈ ks
  · rw [if_pos h, if_pos h, List.length_map, List.length_zip]; omega
  · rw [if_neg h, if_neg h, List.length_append, List.length_append, hl]; rfl
theorem AtL.putG {W : Wd} {H : Hp} {O : List Addr} {κ : Type} [DecidableEq κ] {v : V} {d : D} (hd : At W H O v d) (k : κ) {ks : List κ} {vs : List V} {ds : List D} (h : AtL W H O vs ds) : AtL W H O (QL.putG ks vs k v) (QL.putG ks ds k d) := by
  unfold QL.putG
  by_cases hk : k ∈ ks
  · rw [if_pos hk, if_pos hk]
    clear hk
    induction ks generalizing vs ds with
    | nil => exact .nil
    | cons k0 ks ih =>
      cases h with
      | nil => exact .nil
      | cons a t =>
        refine .cons ?_ (ih t)
        by_cases e : k0 = k
        · simp only [e, if_true]; exact hd
        · simp only [e, if_false]; exact a
  · rw [if_neg hk, if_neg hk]
    exact h.app (.cons hd .nil)
def sDput (i : Nat) (rk rv : RE) : RS := fun d ρ => rv ρ (fun s ρ1 => (∃ t, ρ1[i]? = some (some t)) ∧ rk ρ1 (fun t ρ2 => match ρ2[i]?, s.dat, t.dat with
  | some (some (.m a (.dt ks xs))), some y, some kd => match keyT kd with
    | some key => ks.length < sizeLine ∧ d.nx (ρ2.set i (some (.m a (.dt (ksPut ks key) (putG ks xs key y)))))
    | none => False
  | some (some (.m a (.dk ks xs))), some y, some kd => match keyK kd with
    | some key => ks.length < sizeLine ∧ d.nx (ρ2.set i (some (.m a (.dk (ksPut ks key) (putG ks xs key y)))))
    | none => False
  | _, _, _ => False) d.ex) d.ex
theorem dT_nc {kvs : List (List Key × V)} (c : Addr) (q : Str) : HO.dT kvs ≠ LamX.CodeO c q := fun z => by
  unfold LamX.CodeO at z; cases z
theorem dK_nc {kvs : List (Key × V)} (c : Addr) (q : Str) : HO.dK kvs ≠ LamX.CodeO c q := fun z => by
  unfold LamX.CodeO at z; cases z
theorem ins_nc {C dx : Addr} {fs : List (Str × V)} (c : Addr) (q : Str) : HO.ins C dx fs ≠ LamX.CodeO c q := fun z => by
  unfold LamX.CodeO at z; cases z
/-- what is being made in a slot is written -/
theorem Rep.mset {W : Wd} {σ : L2.St} {H : Hp} {ρ : Env} {Γ : List It} {i : Nat} {a : Addr} {m m' : M} {o : HO} (r : Rep W σ H ρ Γ) (e : ρ[i]? = some (some (.m a m))) (nc : ∀ c q, o ≠ LamX.CodeO c q) (h : ∀ O, a ∈ O → (∀ b ∈ O, b ∈ owns (slots σ ρ ++ Γ)) → MAt W (upd H a o) O a m') :
    Rep W σ (upd H a o) (ρ.set i (some (.m a m'))) Γ := by
  obtain ⟨v, hv, r1⟩ := r.lend e
  have ev : v = .ref a := r1.head.1
  subst ev
  have hi : i < ρ.length := (List.getElem?_eq_some_iff.mp e).1
  have o1 : ∀ b, b ∈ a :: owns (slots σ (ρ.set i none) ++ Γ) → b ∈ owns (slots σ ρ ++ Γ) := fun b hb => by
    have p := owns_perm ((slots_take hv e).append_right Γ)
    exact p.mem_iff.mpr hb
  have r2 := r1.write (m' := m') (o := o) nc (h _ List.mem_cons_self o1)
  have r3 := r2.give hv (List.getElem?_set_self hi)
  rw [List.set_set] at r3
  exact r3
theorem Rep.mget {W : Wd} {σ : L2.St} {H : Hp} {ρ : Env} {Γ : List It} {i : Nat} {a : Addr} {m : M} (r : Rep W σ H ρ Γ) (e : ρ[i]? = some (some (.m a m))) : σ[i]? = some (some (.ref a)) ∧ MAt W H (owns (slots σ ρ ++ Γ)) a m := by
  obtain ⟨v, hv, r1⟩ := r.lend e
  obtain ⟨ev, h⟩ := r1.head
  have ev : v = .ref a := ev
  subst ev
  refine ⟨hv, h.step (step_perm fun b hb => ?_) fun _ z => z⟩
  have p := owns_perm ((slots_take hv e).append_right Γ)
  exact p.mem_iff.mp hb
section
variable {G : Gw} {E : XK} {X : Cx} {k : Nat} {gq : Bool} {a b : Expr} {es : List Expr} {ta tb : TE} {ra rb : RE} {pos p p2 apos : Pos}
theorem ds_dput (c : Cn G E X k gq) (i : Nat) {x : Str} (hk : DE G E X b tb rb) (hv : DE G E X a ta ra) (hN : X.N[i]? = some x := by rfl) (hvis : Vis X.env.scope x := by first | exact Or.inl rfl | exact Or.inr (Or.inl rfl) | exact Or.inr (Or.inr rfl)) (hd : (x == ("__debug__" : Str)) = false := by decide) (hcd : (x == ("__classdict__" : Str)) = false := by decide)
    (hs : swapsWith a (some (.Subscript (.Name x p) b p2)) pos.line X.env = pure false := by rfl) :
    DS G E X (.Assign [.Subscript (.Name x p) b p2] a pos) (sDPut (tVar i) tb ta) (sDput i rb ra) := ⟨ps_dput (hu_of c.room) (pe_var hN hvis hd hcd) hk.p hv.p hs, fun σ H ρ Γ D d re hr o => hv.s σ H ρ Γ _ _ d.ex re hr (fun v s ρ1 H1 r1 h1 => by
  obtain ⟨⟨t0, h0⟩, h1⟩ := h1
  obtain ⟨v0, hv0⟩ := r1.hs i t0 h0
  refine ⟨v0, hv0, ?_⟩
  refine hk.s σ H1 ρ1 _ _ _ d.ex r1 h1 (fun w t ρ2 H2 r2 h2 => ?_) o.ex.tail
  try dsimp only at h2
  split at h2
  · rename_i a0 ks xs y kd hm hy hk
    split at h2
    · rename_i key hkey
      have r3 := r2.dat hk
      obtain ⟨bb, rfl, hb⟩ := keyT_at (show At G.W H2 _ w kd from r3.head) hkey
      have r4 := (r3.drop).dat hy
      obtain ⟨hv1, vs1, g1, g0, g2⟩ := r4.mget hm
      rw [hv0] at hv1
      cases hv1
      have zy : At G.W H2 (owns (slots σ ρ2 ++ (v, S.d y) :: Γ)) v y := At.step (step_perm fun b hb => (owns_perm (perm_mid _ _ _)).mem_iff.mp hb) (show At G.W H2 _ v y from r4.head)
      refine ⟨a0, _, rfl, DPut.t g1 hb (by rw [List.length_zip]; omega), o.nx _ _ _ ?_ h2.2⟩
      rw [putK_zip g0]
      refine (r4.mset (m' := .dt (ksPut ks key) (putG ks xs key y)) hm dT_nc fun O ha ho => ?_).drop
      exact ⟨_, upd_same, putG_len g0 key v, AtL.step (upd_step ha) (AtL.step (step_perm ho) (AtL.putG zy key g2))⟩
    · exact False.elim h2
  · rename_i a0 ks xs y kd hm hy hk
    split at h2
    · rename_i key hkey
      have r3 := r2.dat hk
      have ew := keyK_at (show At G.W H2 _ w kd from r3.head) hkey
      subst ew
      have r4 := (r3.drop).dat hy
      obtain ⟨hv1, vs1, g1, g0, g2⟩ := r4.mget hm
      rw [hv0] at hv1
      cases hv1
      have zy : At G.W H2 (owns (slots σ ρ2 ++ (v, S.d y) :: Γ)) v y := At.step (step_perm fun b hb => (owns_perm (perm_mid _ _ _)).mem_iff.mp hb) (show At G.W H2 _ v y from r4.head)
      refine ⟨a0, _, rfl, DPut.k g1 (by rw [List.length_zip]; omega), o.nx _ _ _ ?_ h2.2⟩
      rw [putK_zip g0]
      refine (r4.mset (m' := .dk (ksPut ks key) (putG ks xs key y)) hm dK_nc fun O ha ho => ?_).drop
      exact ⟨_, upd_same, putG_len g0 key v, AtL.step (upd_step ha) (AtL.step (step_perm ho) (AtL.putG zy key g2))⟩
    · exact False.elim h2
  · exact False.elim h2) o.ex⟩
def rDnewT : RE := fun ρ R _ => ∀ p, R (.m p (.dt [] [])) ρ
def rDnewK : RE := fun ρ R _ => ∀ p, R (.m p (.dk [] [])) ρ
theorem de_dnewT : DE G E X (.Dict [] [] pos) tDNewT rDnewT := ⟨pe_dnewT, fun σ H ρ Γ Q R e re hr q o p np => q _ _ _ _ (re.own (m := .dt [] []) np (same_new np) ⟨[], upd_same, rfl, .nil⟩ fun o e => by rw [upd_same] at e; cases e; exact dT_nc) (hr p)⟩
theorem de_dnewK : DE G E X (.Dict [] [] pos) tDNewK rDnewK := ⟨pe_dnewK, fun σ H ρ Γ Q R e re hr q o p np => q _ _ _ _ (re.own (m := .dk [] []) np (same_new np) ⟨[], upd_same, rfl, .nil⟩ fun o e => by rw [upd_same] at e; cases e; exact dK_nc) (hr p)⟩
end
end QL
set_option Elab.async false
set_option linter.all false
set_option maxRecDepth 100000
set_option maxHeartbeats 4000000
namespace QL
open PySem L2
open PySem.W (Frag)
/-! ### instances: fields -/
theorem lookup_zip {α : Type} (f : Str) : ∀ (ns : List Str) (vs : List α), (ns.zip vs).lookup f = getG ns vs f
  | [], _ => rfl
  | _ :: _, [] => rfl
  | n :: ns, v :: vs => by
    rw [List.zip_cons_cons, List.lookup_cons]
    by_cases h : n = f
    · subst h
      simp [getG]
    · have h2 : (f == n) = false := beq_eq_false_iff_ne.mpr fun e => h e.symm
      rw [h2]
      have ih := lookup_zip f ns vs
      simp only [getG, List.zip_cons_cons, List.find?_cons, decide_eq_false h]
      exact ih
def rFld (cs : List Nat) (f : Str) (r : RE) : RE := fun ρ R e => r ρ (fun s ρ' => match s.dat with
  | some (.ins c _ ns xs) => c ∈ cs ∧ optP (getG ns xs f) fun d => R (.d d) ρ'
  | _ => False) e
def FldOk (G : Gw) (cs : List Nat) (f : Str) : Prop := ∀ c ∈ cs, Cls G.W.K (G.W.CA c) ∧ NoAttr G.W.K (G.W.CA c) f
section
variable {G : Gw} {E : XK} {X : Cx} {k : Nat} {gq : Bool} {a b : Expr} {es : List Expr} {ta tb : TE} {ra rb : RE} {pos p p2 : Pos}
theorem de_fld {cs : List Nat} {f : Str} (c : Cn G E X k gq) (hf : FldOk G cs f) (h : DE G E X a ta ra) (hb : attributeBase a f X.env (eval a X.env) = eval a X.env := by rfl) : DE G E X (.Attribute a f pos) (tFld G.W.K ta f) (rFld cs f ra) := by
  refine ⟨?_, fun σ H ρ Γ Q R e re hr q o => h.s σ H ρ Γ _ _ e re hr (fun v s ρ' H' r' h' => ?_) o⟩
  · have z := pe_fld (pos := pos) h.p hb
    rw [c.K] at z
    exact z
  · try dsimp only at h'
    split at h'
    · rename_i c' a' ns xs hx
      obtain ⟨hc, h'⟩ := h'
      obtain ⟨d, hd, h'⟩ := opt_get h'
      have r2 := r'.dat hx
      have z : At G.W H' _ v (.ins c' a' ns xs) := r2.head
      cases z with
      | ins g1 g2 g3 g4 =>
        obtain ⟨g5, g6⟩ := hf c' hc
        obtain ⟨w, g7, g8⟩ := (getG_at f g4).1 d hd
        refine ⟨_, _, _, _, w, rfl, g1, g5, g6, by rw [lookup_zip]; exact g7, q _ _ _ _ (r2.drop.data ?_) h'⟩
        exact At.step (step_perm fun b hb => by rw [owns_cons]; exact hb) g8
    · exact False.elim h'
/-- self.f = e, self being made -/
def sFset (i cl : Nat) (f : Str) (r : RE) : RS := fun d ρ => r ρ (fun s ρ1 => match ρ1[i]?, s.dat with
  | some (some (.m a (.obj c ns xs))), some y => (c = cl ∧ ns.length < 1000 ∧ f ∉ ns) ∧ d.nx (ρ1.set i (some (.m a (.obj c (ns ++ [f]) (xs ++ [y])))))
  | _, _ => False) d.ex
theorem putF_new {f : Str} {v : V} : ∀ {ns : List Str} {vs : List V}, ns.length = vs.length → f ∉ ns → putF f v (ns.zip vs) = (ns ++ [f]).zip (vs ++ [v])
  | [], [], _, _ => rfl
  | n :: ns, w :: vs, h, hn => by
    have h1 : n ≠ f := fun e => hn (by rw [e]; exact List.mem_cons_self)
    show putF f v ((n, w) :: ns.zip vs) = (n, w) :: (ns ++ [f]).zip (vs ++ [v])
    rw [← putF_new (by simpa using h) fun z => hn (List.mem_cons_of_mem _ z)]
    show (if n = f then _ else _) = _
    rw [if_neg h1]
  | [], _ :: _, h, _ => by simp at h
  | _ :: _, [], h, _ => by simp at h
theorem ds_fset (c : Cn G E X k gq) (i cl : Nat) {x f : Str} (hf : FldOk G [cl] f) (hv : DE G E X a ta ra) (hN : X.N[i]? = some x := by rfl) (hvis : Vis X.env.scope x := by first | exact Or.inl rfl | exact Or.inr (Or.inl rfl) | exact Or.inr (Or.inr rfl)) (hd : (x == ("__debug__" : Str)) = false := by decide) (hcd : (x == ("__classdict__" : Str)) = false := by decide)
    (hs : swapsWith a (some (.Attribute (.Name x p) f p2)) pos.line X.env = pure false := by rfl) : DS G E X (.Assign [.Attribute (.Name x p) f p2] a pos) (sFld G.W.K (tVar i) ta f) (sFset i cl f ra) := by
  refine ⟨?_, fun σ H ρ Γ D d re hr o => hv.s σ H ρ Γ _ _ d.ex re hr (fun v s ρ1 H1 r1 h1 => ?_) o.ex⟩
  · have z := ps_fld (pos := pos) (pe_var (pos := p) hN hvis hd hcd) hv.p hs
    rw [c.K] at z
    exact z
  · try dsimp only at h1
    split at h1
    · rename_i a0 c0 ns xs y hm hy
      obtain ⟨⟨rfl, h2, h3⟩, h1⟩ := h1
      have r2 := r1.dat hy
      obtain ⟨hv1, dx, vs1, g1, g0, g2⟩ := r2.mget hm
      obtain ⟨g5, g6⟩ := hf c0 List.mem_cons_self
      have zy : At G.W H1 (owns (slots σ ρ1 ++ (v, S.d y) :: Γ)) v y := At.step (step_perm fun b hb => (owns_perm (perm_mid _ _ _)).mem_iff.mp hb) (show At G.W H1 _ v y from r2.head)
      refine ⟨_, hv1, a0, _, dx, _, rfl, g1, g5, g6, by rw [List.length_zip]; omega, o.nx _ _ _ ?_ h1⟩
      rw [putF_new g0 h3]
      refine (r2.mset (m' := .obj c0 (ns ++ [f]) (xs ++ [y])) hm ins_nc fun O ha ho => ?_).drop
      exact ⟨dx, _, upd_same, by rw [List.length_append, List.length_append, g0]; rfl, AtL.step (upd_step ha) (AtL.step (step_perm ho) (g2.app (.cons zy .nil)))⟩
    · exact False.elim h1
end
/-! ### instances: making -/
def starSp (G : Gw) (n : Nat) (sp : PSp) : Sp := fun vs H Q E => ∃ ws rest, vs = ws ++ rest ∧ ws.length = n ∧ rest.length ≤ sizeLine ∧ ∀ p, H p = Option.none → toSp G (n + 1) sp (ws ++ [V.ref p]) (upd H p (.tup rest)) Q E
theorem cxUpN {P : Program} {w : World} : StX.CXUp (L2N.CX P w) := fun outer s H s2 H2 E e s' un kp ho ⟨a, B, H', cls, d, ea, fl, hok, ub, na, os, ag, he⟩ => by
  have up : ∀ b o, s.heap.get? b = some o → H b = none → H2 b = none := fun b o q n => un.free b o q n (List.not_mem_nil)
  refine ⟨a, B, H', cls, d, ea, fl, hok, ⟨fun b o q n hb => ub.keep b o (kp b o q) (up b o q n) hb, fun b o q hb => ub.slot b o (kp b o q) hb, fun b o q n => ub.free b o (kp b o q) (up b o q n),
    fun b o q hb => ub.there b o (kp b o q) hb, fun b xs q => ub.tups b xs (un.tups b xs q), fun b o xs q => ub.frzs b o xs (un.frzs b o xs q), fun b ps q => ?_⟩, na, os.trans ho, ag, he⟩
  obtain ⟨m1, e1⟩ := un.tbls b ps q
  obtain ⟨m2, e2⟩ := ub.tbls b _ e1
  exact ⟨m1 ++ m2, by rw [e2, Array.append_assoc]⟩
/-- a def with a star at its end, without the heap -/
theorem fn_starP {P : Program} {w : World} {mg : Str → Option Value} {base : Heap} {G : Gw} {k : Nat} {f : Addr} {fd : FuncData} {ps : List Str} {sp : PSp} {x qual pv : Str} {st : Stmt} {N : List Str} (F : Fun G.W.K x qual st f fd) (S : FnScope N (ps ++ [pv]) (defScope st)) (hn : (ps ++ [pv]).length ≤ N.length)
    (hb : ∀ (kV doc pm : Value) (an : Option Addr) (cdv ct : Value) (us rest : List Value), us.length = ps.length → bindArgs (PySem.W.fnOf x qual (defArgs st) (defBody st) (defScope st) .none kV doc pm an cdv ct) ⟨us ++ rest, []⟩ = (newTuple rest >>= fun t => pure (ps.zip us ++ [(pv, t)])))
    (body : ∀ (cdv : Value) (A : Around) (outer : List PySem.Env) (s : Shared) (H : Hp) (E : XK), Cn G E (cxOf (L2N.CX P w) P w G.W.K mg base N qual (defScope st) f cdv A outer s H E) k false →
      ∃ t r, DSs G E (cxOf (L2N.CX P w) P w G.W.K mg base N qual (defScope st) f cdv A outer s H E) (defBody st) t r ∧ ∀ ss R e, sp ss R e → ss.length = (ps ++ [pv]).length → r (defEnds (ps ++ [pv]).length R e) (startR ss N.length)) :
    L2.FnR P w G.W.K mg base (L2N.CX P w) (k + 1) f (starSp G ps.length sp) := by
  obtain ⟨oc, od, kV, doc, pm, an, cdv, ct, osl, rfl, lk, hcd⟩ := F.ex
  have el : (ps ++ [pv]).length = ps.length + 1 := by rw [List.length_append]; rfl
  refine StX.fn_star (ps := ps) (pv := pv) (sp := toSp G (ps.length + 1) sp) lk hcd S cxUpN (fun us rest hl => hb kV doc pm an cdv ct us rest hl) fun A outer s H vs Q E hr hsp => ?_
  exact body_pure (x := x) (ps := ps ++ [pv]) S hn hr (fun z => by cases z) (body cdv A outer s H E) (by rw [el]; exact hsp)
theorem own_nc {x : Addr} (c : Addr) (q : Str) : HO.own x ≠ LamX.CodeO c q := fun z => by
  unfold LamX.CodeO at z; cases z
section
variable {G : Gw} {E : XK} {σ : L2.St} {ρ : Env} {H1 : Hp} {Γ : List It} {Q : VK} {R : S → Env → Prop} {e : XD → Prop} {c : Nat}
/-- a new instance, ahead of its __init__ -/
theorem new_obj {W : Wd} {I : List It} {x dx : Addr} {c : Nat} (h : Hold W H1 I) (nx : H1 x = none) (nd : H1 dx = none) (ne : dx ≠ x) : Same H1 (upd (upd H1 dx (.own x)) x (.ins (W.CA c) dx [])) ∧ Hold W (upd (upd H1 dx (.own x)) x (.ins (W.CA c) dx [])) ((.ref x, .m x (.obj c [] [])) :: I) := by
  have k : Same H1 (upd (upd H1 dx (.own x)) x (.ins (W.CA c) dx [])) := fun b o q => by
    rw [upd_ne (ne_of_none q nx), upd_ne (ne_of_none q nd)]; exact q
  refine ⟨k, h.own nx k ⟨dx, [], upd_same, rfl, .nil⟩ fun o e => ?_⟩
  rw [upd_same] at e; cases e; exact ins_nc
/-- what comes of it -/
theorem made_obj {v : V} {s : S} {B : List (Addr × M)} {H' : Hp} {x : Addr} (re : Rep G.W σ H1 ρ Γ) (q : ∀ v z H', Rep G.W σ H' ρ ((v, z) :: Γ) → R z ρ → Q v H') (h : Hold G.W H' ((v, s) :: (B.map opair ++ (slots σ ρ ++ Γ)))) (hR : s = .d .non ∧ ∃ ns xs, B = [(x, .obj c ns xs)] ∧ R (.d (.ins c x ns xs)) ρ) : v = .non ∧ Q (.ref x) H' := by
  obtain ⟨rfl, ns, xs, rfl, hR⟩ := hR
  have hv : At G.W H' _ v .non := h.head
  refine ⟨by cases hv; rfl, q _ _ _ ⟨re.len, re.hs, ?_⟩ hR⟩
  have h2 : Hold G.W H' ((.ref x, .m x (.obj c ns xs)) :: (slots σ ρ ++ Γ)) := h.tail
  exact (h2.freeze rfl).perm (perm_mid _ _ _).symm
theorem mk_star {sp : PSp} {vs : List V} {ds : List D} (re : Rep G.W σ H1 ρ Γ) (a : AtL G.W H1 (owns (slots σ ρ ++ Γ)) vs ds) (hl : ds.length ≤ sizeLine) (h : ∀ x, sp [.m x (.obj c [] []), .d (.tup ds)] (fun s B => s = .d .non ∧ ∃ ns xs, B = [(x, .obj c ns xs)] ∧ R (.d (.ins c x ns xs)) ρ) e)
    (q : ∀ v z H', Rep G.W σ H' ρ ((v, z) :: Γ) → R z ρ → Q v H') (o : Out G E Γ e) : ∀ x dx, H1 x = none → H1 dx = none → dx ≠ x → starSp G 1 sp (.ref x :: vs) (upd (upd H1 dx (.own x)) x (.ins (G.W.CA c) dx [])) (fun v H2 => v = .non ∧ Q (.ref x) H2) E := by
  intro x dx nx nd ne
  obtain ⟨k, h2⟩ := new_obj (c := c) re.hold nx nd ne
  refine ⟨[.ref x], vs, rfl, rfl, by rw [a.length]; exact hl, fun p np => ?_⟩
  refine ⟨[.m x (.obj c [] []), .d (.tup ds)], slots σ ρ ++ Γ, _, e, rfl, rfl, ?_, h x, fun v s B H' h' hR => made_obj re q h' hR, o.app _⟩
  have sp' := same_new (o := .tup vs) np
  have h3 := h2.grow sp'
  have h4 : Hold G.W _ ((.ref p, .d (.tup ds)) :: (.ref x, .m x (.obj c [] [])) :: (slots σ ρ ++ Γ)) := h3.data (.tup (.inl ⟨upd_same, h2.fresh np⟩) (AtL.step ⟨fun b o _ e => sp' _ _ (k _ _ e), fun b hb => (List.mem_cons.mp hb).elim (fun z => .inr (z ▸ nx)) .inl⟩ a))
  exact h4.perm (List.Perm.swap _ _ _)
theorem mk_norm {n : Nat} {sp : PSp} {vs : List V} {ds : List D} (re : Rep G.W σ H1 ρ Γ) (a : AtL G.W H1 (owns (slots σ ρ ++ Γ)) vs ds) (hl : ds.length + 1 = n) (h : ∀ x, sp (.m x (.obj c [] []) :: ds.map S.d) (fun s B => s = .d .non ∧ ∃ ns xs, B = [(x, .obj c ns xs)] ∧ R (.d (.ins c x ns xs)) ρ) e)
    (q : ∀ v z H', Rep G.W σ H' ρ ((v, z) :: Γ) → R z ρ → Q v H') (o : Out G E Γ e) : ∀ x dx, H1 x = none → H1 dx = none → dx ≠ x → toSp G n sp (.ref x :: vs) (upd (upd H1 dx (.own x)) x (.ins (G.W.CA c) dx [])) (fun v H2 => v = .non ∧ Q (.ref x) H2) E := by
  intro x dx nx nd ne
  obtain ⟨k, h2⟩ := new_obj (c := c) re.hold nx nd ne
  refine ⟨.m x (.obj c [] []) :: ds.map S.d, slots σ ρ ++ Γ, _, e, by rw [List.length_cons, List.length_cons, List.length_map, a.length], by rw [List.length_cons, a.length]; exact hl, ?_, h x, fun v s B H' h' hR => made_obj re q h' hR, o.app _⟩
  have a2 : AtL G.W (upd (upd H1 dx (.own x)) x (.ins (G.W.CA c) dx [])) (owns ((V.ref x, S.m x (.obj c [] [])) :: (slots σ ρ ++ Γ))) vs ds := AtL.step ⟨fun b o _ e => k _ _ e, fun b hb => (List.mem_cons.mp hb).elim (fun z => .inr (z ▸ nx)) .inl⟩ a
  have h3 := at_items h2 a2
  exact h3.perm (perm_mid _ _ _)
end
/-- C(..) -/
def rMkS (c : Nat) (sp : PSp) (r : RA) : RE := fun ρ R e => r ρ (fun ss ρ' => match dats ss with
  | some ds => ds.length ≤ sizeLine ∧ ∀ x, sp [.m x (.obj c [] []), .d (.tup ds)] (fun s B => s = .d .non ∧ ∃ ns xs, B = [(x, .obj c ns xs)] ∧ R (.d (.ins c x ns xs)) ρ') e
  | none => False) e
/-- C(*y) -/
def rMkY (c : Nat) (sp : PSp) (r : RE) : RE := fun ρ R e => r ρ (fun s ρ' => match s.dat with
  | some (.tup ds) => ds.length ≤ sizeLine ∧ ∀ x, sp [.m x (.obj c [] []), .d (.tup ds)] (fun s B => s = .d .non ∧ ∃ ns xs, B = [(x, .obj c ns xs)] ∧ R (.d (.ins c x ns xs)) ρ') e
  | some (.lst ds) => ds.length ≤ sizeLine ∧ ∀ x, sp [.m x (.obj c [] []), .d (.tup ds)] (fun s B => s = .d .non ∧ ∃ ns xs, B = [(x, .obj c ns xs)] ∧ R (.d (.ins c x ns xs)) ρ') e
  | _ => False) e
def rMk (c n : Nat) (sp : PSp) (r : RA) : RE := fun ρ R e => r ρ (fun ss ρ' => match dats ss with
  | some ds => ds.length + 1 = n ∧ ∀ x, sp (.m x (.obj c [] []) :: ds.map S.d) (fun s B => s = .d .non ∧ ∃ ns xs, B = [(x, .obj c ns xs)] ∧ R (.d (.ins c x ns xs)) ρ') e
  | none => False) e
section
variable {G : Gw} {E : XK} {X : Cx} {k n cl : Nat} {gq : Bool} {a b : Expr} {es : List Expr} {ta tb : TE} {ra rb : RE} {t : TA} {r : RA} {pos p p2 : Pos} {f : Addr} {fd : FuncData} {ps : List Str} {sp : PSp} {x : Str}
theorem snd_mkS (h : SndA G E t r) : SndE G E (StX.tMakeR (G.W.CA cl) (starSp G 1 sp) E t) (rMkS cl sp r) := fun σ H ρ Γ Q R e re hr q o => h σ H ρ Γ _ _ e re hr (fun vs ss ρ' H' hl r' h' => by
  try dsimp only at h'
  split at h'
  · rename_i ds hd
    obtain ⟨rt, ha, hn⟩ := Rep.dats' hl hd r'
    exact mk_star rt ha h'.1 h'.2 (fun v z H2 r2 h2 => q v z ρ' H2 r2 h2) o
  · exact False.elim h') o
theorem de_mkS (c : Cn G E X (k + 1) gq) (M : Mk G.W.K (G.W.CA cl) f) (F : L2.FnR X.prog X.w X.K X.mg X.base (L2N.CX X.prog X.w) k f (starSp G 1 sp)) (hm : X.mg x = some (.ref (G.W.CA cl))) (h : DA G E X (a :: es) t r) (hg : Gl X x := by rfl) (hdb : (x == ("__debug__" : Str)) = false := by decide)
    (he : starEach (a :: es) X.env = (false, eval a X.env) :: starEach es X.env := by rfl) (hpl : (backTo pos (starEach es X.env)).any (·.1) = false := by rfl) : DE G E X (.Call (.Name x p) (a :: es) [] pos) (StX.tMakeR (G.W.CA cl) (starSp G 1 sp) E t) (rMkS cl sp r) :=
  ⟨StX.pe_makeR (by rw [c.K]; exact M) F c.room hg hm c.ps h.p hdb he hpl, snd_mkS h.s⟩
theorem de_mkS0 (c : Cn G E X (k + 1) gq) (M : Mk G.W.K (G.W.CA cl) f) (F : L2.FnR X.prog X.w X.K X.mg X.base (L2N.CX X.prog X.w) k f (starSp G 1 sp)) (hm : X.mg x = some (.ref (G.W.CA cl))) (hg : Gl X x := by rfl) (hdb : (x == ("__debug__" : Str)) = false := by decide) : DE G E X (.Call (.Name x p) [] [] pos) (StX.tMakeR (G.W.CA cl) (starSp G 1 sp) E tNil) (rMkS cl sp rNil) :=
  ⟨pe_makeR0 (by rw [c.K]; exact M) F c.room hg hm c.ps hdb, snd_mkS (da_nil (X := X)).s⟩
theorem de_mkY (c : Cn G E X (k + 1) gq) {sp_ : Pos} (M : Mk G.W.K (G.W.CA cl) f) (F : L2.FnR X.prog X.w X.K X.mg X.base (L2N.CX X.prog X.w) k f (starSp G 1 sp)) (hm : X.mg x = some (.ref (G.W.CA cl))) (h : DE G E X a ta ra) (hg : Gl X x := by rfl) (hdb : (x == ("__debug__" : Str)) = false := by decide)
    (hst : starEach [.Starred a sp_] X.env = [(true, eval a X.env)] := by rfl) : DE G E X (.Call (.Name x p) [.Starred a sp_] [] pos) (fun σ H Q => ta σ H fun y H1 => ∃ a xs, y = V.ref a ∧ (SqT G.W.K H1 a xs ∨ SqL G.W.K H1 a xs) ∧ ∀ z dz, H1 z = none → H1 dz = none → dz ≠ z → starSp G 1 sp (V.ref z :: xs) (upd (upd H1 dz (.own z)) z (.ins (G.W.CA cl) dz [])) (fun v H2 => v = .non ∧ Q (.ref z) H2) E) (rMkY cl sp ra) := by
  refine ⟨?_, fun σ H ρ Γ Q R e re hr q o => h.s σ H ρ Γ _ _ e re hr (fun v s ρ' H' r' h' => ?_) o⟩
  · have z := pe_makeS (p := p) (pos := pos) (sp_ := sp_) (by rw [c.K]; exact M) F c.room hg hm c.ps h.p hdb hst
    rw [c.K] at z
    exact z
  · try dsimp only at h'
    split at h'
    · rename_i ds hd
      have r2 := r'.dat hd
      have z : At G.W H' _ v (.tup ds) := r2.head
      cases z with
      | tup g1 g2 => exact ⟨_, _, rfl, .inl (At.sqT g1), mk_star r2.drop (AtL.step (step_perm fun b hb => by rw [owns_cons]; exact hb) g2) h'.1 h'.2 (fun v z H2 r2 h2 => q v z ρ' H2 r2 h2) o⟩
    · rename_i ds hd
      have r2 := r'.dat hd
      have z : At G.W H' _ v (.lst ds) := r2.head
      cases z with
      | lst g1 g2 g3 => exact ⟨_, _, rfl, .inr (.inl (.inl g1)), mk_star r2.drop (AtL.step (step_perm fun b hb => by rw [owns_cons]; exact hb) g3) h'.1 h'.2 (fun v z H2 r2 h2 => q v z ρ' H2 r2 h2) o⟩
    · exact False.elim h'
theorem de_mk (c : Cn G E X (k + 1) gq) (M : Mk G.W.K (G.W.CA cl) f) (F : FnOk X.prog X.w X.K X.mg X.base (L2N.CX X.prog X.w) k f fd ps (toSp G n sp)) (hm : X.mg x = some (.ref (G.W.CA cl))) (hb : Binds X.K fd ps []) (h : DA G E X (a :: es) t r) (hg : Gl X x := by rfl) (hdb : (x == ("__debug__" : Str)) = false := by decide)
    (he : starEach (a :: es) X.env = (false, eval a X.env) :: starEach es X.env := by rfl) (hpl : (backTo pos (starEach es X.env)).any (·.1) = false := by rfl) : DE G E X (.Call (.Name x p) (a :: es) [] pos) (tMake (G.W.CA cl) (toSp G n sp) [] E t) (rMk cl n sp r) :=
  ⟨pe_make (by rw [c.K]; exact M) F c.room hg hm hb .nil c.ps h.p hdb he hpl, fun σ H ρ Γ Q R e re hr q o => h.s σ H ρ Γ _ _ e re hr (fun vs ss ρ' H' hl r' h' => by
  try dsimp only at h'
  split at h'
  · rename_i ds hd
    obtain ⟨rt, ha, hn⟩ := Rep.dats' hl hd r'
    intro y dy ny ndy ne
    have z := mk_norm rt ha h'.1 h'.2 (fun v z H2 r2 h2 => q v z ρ' H2 r2 h2) o y dy ny ndy ne
    rw [List.append_nil]
    exact z
  · exact False.elim h') o⟩
/-! ### static methods, properties, methods -/
theorem de_smeth (c : Cn G E X k gq) {mc : Value} {m xC : Str} {pp g : Addr} {apos : Pos} {pl : Sem Bool} (rd : ClX.CRead G.W.K (G.W.CA cl) mc) (sm : SMet G.W.K (G.W.CA cl) mc m pp g) (F : FnOk X.prog X.w X.K X.mg X.base (L2N.CX X.prog X.w) k g fd ps (toSp G n sp)) (hm : X.mg xC = some (.ref (G.W.CA cl))) (hb : Binds X.K fd ps []) (h : DA G E X (a :: es) t r) (hg : Gl X xC := by rfl) (hdb : (xC == ("__debug__" : Str)) = false := by decide)
    (hst : starEach (a :: es) X.env = (false, eval a X.env) :: starEach es X.env := by rfl) (hpl : (backTo pos (starEach es X.env)).any (·.1) = false := by rfl)
    (ht : eval (.Call (.Attribute (.Name xC p) m apos) (a :: es) [] pos) X.env = (do
      let ov ← eval (.Name xC p) X.env
      standAt apos.atName
      let (f, first) ← holding [ov] (getMethod ov m pl)
      callWith pos f first (backTo pos (starEach (a :: es) X.env)) (backToKw pos (keywordEach [] X.env))) := by rfl) :
    DE G E X (.Call (.Attribute (.Name xC p) m apos) (a :: es) [] pos) (tSMeth (G.W.CA cl) (toSp G n sp) E (tC (.ref (G.W.CA cl))) t) (rCall n sp r) :=
  ⟨pe_smeth (pe_glob (v := .ref (G.W.CA cl)) hg hm rfl hdb) (by rw [c.K]; exact rd) (by rw [c.K]; exact sm) F c.room hb c.ps h.p hst hpl ht, fun σ H ρ Γ Q R e re hr q o => ⟨rfl, by
    have z := snd_call (sp := sp) h.s σ H ρ Γ Q R e re hr q o
    have z2 : t σ H fun vs H1 => toSp G n sp (vs ++ []) H1 Q E := z
    have : (fun vs H1 => toSp G n sp (vs ++ []) H1 Q E) = fun vs H1 => toSp G n sp vs H1 Q E := by
      funext vs H1
      rw [List.append_nil]
    rw [this] at z2
    exact z2⟩⟩
def rProp (c : Nat) (sp : PSp) (ra : RE) : RE := fun ρ R e => ra ρ (fun s ρ' => match s.dat with
  | some (.ins c' a ns xs) => c' = c ∧ sp [.d (.ins c' a ns xs)] (fun s _ => R s ρ') (fun _ => False)
  | _ => False) e
theorem de_prop (c : Cn G E X (k + 1) gq) {m : Str} {pp g : Addr} (cc : Cls G.W.K (G.W.CA cl)) (hp : PropOf G.W.K (G.W.CA cl) m pp g) (F : FnOk X.prog X.w X.K X.mg X.base (L2N.CX X.prog X.w) k g fd ps (toSp G 1 sp)) (hb : Binds X.K fd ps []) (h : DE G E X a ta ra) (hab : attributeBase a m X.env (eval a X.env) = eval a X.env := by rfl) :
    DE G E X (.Attribute a m pos) (tProp (G.W.CA cl) (toSp G 1 sp) [] E0 ta) (rProp cl sp ra) :=
  ⟨pe_prop h.p (by rw [c.K]; exact cc) (by rw [c.K]; exact hp) F c.room hb .nil passN hab, fun σ H ρ Γ Q R e re hr q o => h.s σ H ρ Γ _ _ e re hr (fun v s ρ' H' r' h' => by
  try dsimp only at h'
  split at h'
  · rename_i c' a' ns xs hx
    obtain ⟨rfl, h'⟩ := h'
    have r2 := r'.dat hx
    have z : At G.W H' _ v (.ins c' a' ns xs) := r2.head
    have hold2 := r2.hold.perm (perm_mid _ _ _)
    cases z with
    | ins g1 g2 g3 g4 =>
      refine ⟨_, _, _, rfl, g1, ?_⟩
      refine ⟨[.d (.ins c' _ ns xs)], slots σ ρ' ++ Γ, fun s _ => R s ρ', fun _ => False, rfl, rfl, hold2, h', fun v s B H2 h2 hR => q v s ρ' H2 (slots_out r2.drop h2) hR, fun _ _ _ _ _ z => z.elim⟩
  · exact False.elim h') o⟩
def rMeth (c n : Nat) (m : Str) (sp : PSp) (ra : RE) (r : RA) : RE := fun ρ R e => ra ρ (fun s ρ' => match s.dat with
  | some (.ins c' a ns xs) => (c' = c ∧ m ∉ ns) ∧ r ρ' (fun ss ρ2 => match dats ss with
    | some ds => ds.length + 1 = n ∧ sp (.d (.ins c' a ns xs) :: ds.map S.d) (fun s _ => R s ρ2) e
    | none => False) e
  | _ => False) e
end
end QL
set_option Elab.async false
set_option linter.all false
set_option maxRecDepth 100000
set_option maxHeartbeats 4000000
namespace QL
open PySem L2
open PySem.W (Frag)
/-! ### enumerate(t), t a tuple -/
def enumD (ds : List D) : List D := (List.range ds.length).zipWith (fun i d => D.tup [.int (i : Nat), d]) ds
theorem enumD_len (ds : List D) : (enumD ds).length = ds.length := by
  unfold enumD
  rw [List.length_zipWith, List.length_range, Nat.min_self]
theorem enumD_get {ds : List D} {i : Nat} {d : D} (h : (enumD ds)[i]? = some d) : ∃ x, ds[i]? = some x ∧ d = .tup [.int (i : Nat), x] := by
  unfold enumD at h
  rw [List.getElem?_zipWith] at h
  cases hx : ds[i]? with
  | none => rw [hx] at h; split at h <;> simp_all
  | some x =>
    have hi : i < ds.length := (List.getElem?_eq_some_iff.mp hx).1
    rw [hx, List.getElem?_range hi] at h
    cases h
    exact ⟨x, rfl, rfl⟩
theorem walks_enumT {W : Wd} {a : Addr} {ds : List D} : Walks W (Iet W.K a) (enumD ds) [(.ref a, .d (.tup ds))] := by
  refine ⟨fun H => ∃ O, At W H O (.ref a) (.tup ds), fun i H v H' => ∃ T x, v = .ref T ∧ H T = none ∧ H' = upd H T (.tup [.int (i : Nat), x]) ∧ ∀ xs, SqT W.K H a xs → xs[i]? = some x, ⟨fun i H hi ⟨O, h⟩ => ?_, fun H ⟨O, h⟩ => ?_, fun i H x H' hi _ y => ?_⟩, fun H I h => ⟨_, h.head⟩, fun i H x H' I d hd h y => ?_⟩
  · obtain ⟨vs, h1, h2⟩ := h.tuple
    have hl : i < vs.length := by rw [h2.length, ← enumD_len]; exact hi
    exact ⟨vs, vs[i], h1, List.getElem?_eq_getElem hl⟩
  · obtain ⟨vs, h1, h2⟩ := h.tuple
    exact ⟨vs, h1, by rw [enumD_len, h2.length]⟩
  · obtain ⟨T, x', h1, h2, h3, h4⟩ := y
    exact ⟨T, x', h1, h2, h3, h4⟩
  · obtain ⟨T, x', rfl, nT, rfl, hy⟩ := y
    obtain ⟨xd, hx, rfl⟩ := enumD_get hd
    obtain ⟨vs, h1, h2⟩ := (show At W H _ (.ref a) (.tup ds) from h.head).tuple
    obtain ⟨d2, e2, a2⟩ := h2.getV (hy vs h1)
    rw [hx] at e2
    cases e2
    have k := same_new (o := .tup [V.int (i : Nat), x']) nT
    refine (h.grow k).data (.tup (.inl ⟨upd_same, h.fresh nT⟩) (.cons (.int _) (.cons (a2.same k) .nil)))
def rEnum (r : RA) : RI := fun ρ R e => r ρ (fun ss ρ' => match dats ss with
  | some [.tup xs] => R (enumD xs) ρ'
  | _ => False) e
section
variable {G : Gw} {E : XK} {X : Cx} {k : Nat} {gq : Bool} {a b : Expr} {es : List Expr} {ta tb : TE} {ra rb : RE} {pos p tpos : Pos} {elts : List Expr} {kk : Nat} {t : TA} {r : RA}
theorem di_enum (c : Cn G E X k gq) (T : Bn X.mg) (h : DA G E X [a] t r) (hg : Gl X "enumerate" := by rfl) (hs : starEach [a] X.env = [(false, eval a X.env)] := by rfl) : DI G E X (.Tuple elts kk tpos) (.Call (.Name "enumerate" p) [a] [] pos) (iEnumT G.W.K t) (rEnum r) := by
  refine ⟨?_, fun σ H ρ Γ Q R e re hr q o => h.s σ H ρ Γ _ _ e re hr (fun vs ss ρ' H' hl r' h' => ?_) o⟩
  · have z := pi_enumT (p := p) (pos := pos) (tpos := tpos) (elts := elts) (kk := kk) hg T.enu h.p hs
    rw [c.K] at z
    exact z
  · try dsimp only at h'
    split at h'
    · rename_i xs hd
      obtain ⟨r1, hlen⟩ := Rep.dats hl hd r'
      match vs, hlen, r1 with
      | [v], _, r1 =>
        have r2 : Rep G.W σ H' ρ' ((v, .d (.tup xs)) :: Γ) := r1
        have z : At G.W H' _ v (.tup xs) := r2.head
        cases z with
        | tup g1 g2 => exact ⟨_, _, rfl, At.sqT g1, q _ _ ρ' [(_, .d (.tup xs))] _ r2 walks_enumT h'⟩
    · exact False.elim h'
end
/-! ### {k: v for ..} with keys that are tuples -/
def dcR (vs : List Nat) (g : RG) (tt : RT) (tk tv : RE) (R : List (List Key) → List D → Env → Prop) : List (List Key) → List D → List D → Env → Prop
  | ks, xs, [], ρ => R ks xs (wipeR ρ vs)
  | ks, xs, x :: rest, ρ => g (.d x) (wipeR ρ vs) fun ρ1 => tt ρ1 (fun b ρ2 => if b = true then tk ρ2 (fun s ρ3 => tv ρ3 (fun t ρ4 => optP s.dat fun kd => optP (keyT kd) fun key => optP t.dat fun y => ks.length < sizeLine ∧ dcR vs g tt tk tv R (ksPut ks key) (putG ks xs key y) rest ρ4) (fun _ => False)) (fun _ => False) else dcR vs g tt tk tv R ks xs rest ρ2) fun _ => False
def rDc (vs : List Nat) (ri : RI) (g : RG) (tt : RT) (tk tv : RE) : RE := fun ρ R e => ri ρ (fun ds ρ' => ∀ p, dcR vs g tt tk tv (fun ks xs ρ2 => R (.m p (.dt ks xs)) ρ2) [] [] ds ρ') e
theorem dcR_wipe {vs : List Nat} {g : RG} {tt : RT} {tk tv : RE} {R : List (List Key) → List D → Env → Prop} : ∀ {ks : List (List Key)} {xs ds : List D} {ρ : Env}, dcR vs g tt tk tv R ks xs ds ρ → dcR vs g tt tk tv R ks xs ds (wipeR ρ vs)
  | ks, xs, [], ρ, h => by
    show R ks xs (wipeR (wipeR ρ vs) vs)
    rw [wipeR_idem]; exact h
  | ks, xs, x :: ds, ρ, h => by
    unfold dcR at h ⊢
    rw [wipeR_idem]; exact h
section
variable {G : Gw} {E : XK} {X : Cx} {k : Nat} {gq : Bool} {tg it kx vx : Expr} {ifs : List Expr} {scope : Scope} {own : List (Str × Nat)} {wi : TI} {ri : RI} {t : TG} {g : RG} {tt : TT} {rt : RT} {tk tv : TE} {rk rv : RE} {pos : Pos}
theorem snd_dc {vs sl : List Nat} (hsl : ∀ i ∈ sl, i ∈ vs) (hi : SndI G E wi ri) (hg : SndG G sl t g) (ht : SndT G E0 tt rt) (hk : SndE G E0 tk rk) (hv : SndE G E0 tv rv) : SndE G E (tDcT wi t tt tk tv vs) (rDc vs ri g rt rk rv) := fun σ H ρ Γ Q R e r0 hr q o => hi σ H ρ Γ _ _ e r0 hr (fun J H1 ρ1 Γ1 ds r1 wk h1 => by
  obtain ⟨P, Y, w, hP, hY⟩ := wk
  intro D nD
  have noX : ∀ Γ', Out G E0 Γ' (fun _ => False) := fun _ _ _ _ _ _ z => z.elim
  have pmA : ∀ (ρ' : Env) (m : M), (slots σ ρ' ++ (V.ref D, S.m D m) :: (Γ1 ++ Γ)).Perm (Γ1 ++ (slots σ ρ' ++ (V.ref D, S.m D m) :: Γ)) := fun ρ' m => by
    refine List.Perm.trans ?_ (List.Perm.append_right _ (List.perm_append_comm (l₁ := slots σ ρ') (l₂ := Γ1))) |>.trans (by rw [List.append_assoc])
    rw [List.append_assoc]
    exact (perm_mid _ _ _).symm.append_left _
  refine dcT_it w (fun i H' => ∃ ρ' ks xs, Rep G.W σ H' ρ' ((.ref D, .m D (.dt ks xs)) :: (Γ1 ++ Γ)) ∧ dcR vs g rt rk rv (fun ks xs ρ2 => R (.m D (.dt ks xs)) ρ2) ks xs (ds.drop i) ρ') ⟨ρ1, [], [], ?_, h1 D⟩ (fun i H' _ ⟨ρ', ks, xs, r', _⟩ => hP H' _ (r'.hold.perm (pmA ρ' _))) ?_ ?_
  · exact r1.own nD (same_new nD) ⟨[], upd_same, rfl, .nil⟩ fun o e => by rw [upd_same] at e; cases e; exact dT_nc
  · rintro i x H2 H3 hi2 ⟨ρ2, ks, xs, r2, h2⟩ hy
    have hd : ds[i]? = some ds[i] := List.getElem?_eq_getElem hi2
    rw [List.drop_eq_getElem_cons hi2] at h2
    have pm := pmA ρ2 (.dt ks xs)
    have h3 := hY i H2 x H3 _ _ hd (r2.hold.perm pm) hy
    have r3 : Rep G.W σ H3 ρ2 ((x, .d ds[i]) :: (V.ref D, S.m D (.dt ks xs)) :: (Γ1 ++ Γ)) := ⟨r2.len, r2.hs, h3.perm ((pm.symm.cons _).trans (perm_mid _ _ _).symm)⟩
    refine hg x _ _ H3 _ _ _ _ (r3.toWipe vs) h2 fun σ4 ρ4 r4 k4 l4 h4 => ?_
    have w4 : wipe σ4 vs = wipe σ vs := wipe_same hsl k4 l4
    refine ⟨w4, ht σ4 H3 ρ4 _ _ _ _ r4 h4 (fun b ρ5 H5 r5 h5 => ?_) (noX _)⟩
    cases b with
    | false => exact ⟨wipeR ρ5 vs, ks, xs, r5.unWipe w4, dcR_wipe h5⟩
    | true =>
      refine hk σ4 H5 ρ5 _ _ _ _ r5 h5 (fun kv ksd ρ6 H6 r6 h6 => ?_) (noX _)
      refine hv σ4 H6 ρ6 _ _ _ _ r6 h6 (fun vv vs' ρ7 H7 r7 h7 => ?_) (noX _)
      obtain ⟨kd, e1, h7⟩ := opt_get h7
      obtain ⟨key, e2, h7⟩ := opt_get h7
      obtain ⟨y, e3, h7⟩ := opt_get h7
      have r8 := ((r7.dat e3).perm (List.Perm.swap _ _ _)).dat e1
      have r9 := r8.unWipe w4
      -- key, value, the dict
      obtain ⟨bb, ek, hb⟩ := keyT_at (show At G.W H7 _ kv kd from r9.head) e2
      subst ek
      have r10 := r9.drop
      have r11 := r10.perm (List.Perm.swap _ _ _)
      obtain ⟨_, vs8, g1, g0, g2⟩ := r11.head
      have ay : At G.W H7 (owns ((V.ref D, S.m D (.dt ks xs)) :: (slots σ (wipeR ρ7 vs) ++ (vv, .d y) :: (Γ1 ++ Γ)))) vv y := by
        have z := r11.hold.at_ (vv, .d y) (List.mem_append_right _ (List.mem_cons_of_mem _ List.mem_cons_self))
        exact At.step (step_perm fun b hb => (owns_perm (perm_mid _ _ _)).mem_iff.mpr hb) z
      have o7 : owns ((V.ref D, S.m D (.dt ks xs)) :: (slots σ (wipeR ρ7 vs) ++ (vv, .d y) :: (Γ1 ++ Γ))) = D :: owns (slots σ (wipeR ρ7 vs) ++ (Γ1 ++ Γ)) := by
        show D :: owns (slots σ (wipeR ρ7 vs) ++ (vv, S.d y) :: (Γ1 ++ Γ)) = D :: owns (slots σ (wipeR ρ7 vs) ++ (Γ1 ++ Γ))
        rw [owns_app, owns_app]; rfl
      have a8 : AtL G.W H7 (D :: owns (slots σ (wipeR ρ7 vs) ++ (Γ1 ++ Γ))) (putG ks vs8 key vv) (putG ks xs key y) := by
        rw [← o7]
        exact AtL.putG ay key g2
      refine ⟨_, DPut.t g1 hb (by rw [List.length_zip]; have := h7.1; omega), wipeR ρ7 vs, ksPut ks key, putG ks xs key y, ?_, dcR_wipe h7.2⟩
      rw [putK_zip g0]
      exact r11.drop2.write dT_nc ⟨_, upd_same, putG_len g0 key vv, AtL.step (upd_step List.mem_cons_self) a8⟩
  · rintro H2 ⟨ρ2, ks, xs, r2, h2⟩
    rw [List.drop_length] at h2
    exact q _ _ _ _ ((r2.perm ((perm_mid Γ1 Γ _).symm)).low'.wipeAll vs) h2) o
theorem de_dc {sl : List Nat} (c : Cn G E X k gq) (hi : DI G E X tg it wi ri) (ok : BlkOk X.N X.env.scope scope own)
    (hg : ∀ (s : Shared) (H : Hp) (C : Addr) (cl : List (Str × Addr)) (fp : List Addr), DG G (X.blk s H scope (compEnvC scope cl C X.env) fp) tg sl t g)
    (ht : ∀ (s : Shared) (H : Hp) (C : Addr) (cl : List (Str × Addr)) (fp : List Addr), DTs G E0 (X.blk s H scope (compEnvC scope cl C X.env) fp) ifs tt rt)
    (hk : ∀ (s : Shared) (H : Hp) (C : Addr) (cl : List (Str × Addr)) (fp : List Addr), DE G E0 (X.blk s H scope (compEnvC scope cl C X.env) fp) kx tk rk)
    (hv : ∀ (s : Shared) (H : Hp) (C : Addr) (cl : List (Str × Addr)) (fp : List Addr), DE G E0 (X.blk s H scope (compEnvC scope cl C X.env) fp) vx tv rv)
    (hsl : ∀ i ∈ sl, i ∈ own.map (·.2) := by decide) (hs : ∀ x, foldedSetIterable it X.env x = pure x := by intro _; rfl) :
    DE G E X (.DictComp kx vx [⟨tg, it, ifs, 0⟩] scope pos) (tDcT wi t tt tk tv (own.map (·.2))) (rDc (own.map (·.2)) ri g rt rk rv) :=
  ⟨pe_dcT c.room.units0 c.calm c.nd hi.p ok (fun s H C cl fp => (hg s H C cl fp).p) (fun s H C cl fp => (ht s H C cl fp).p) (fun s H C cl fp => (hk s H C cl fp).p) (fun s H C cl fp => (hv s H C cl fp).p) hs,
    snd_dc hsl hi.s (hg X.s_0 X.H_0 0 [] []).s (ht X.s_0 X.H_0 0 [] []).s (hk X.s_0 X.H_0 0 [] []).s (hv X.s_0 X.H_0 0 [] []).s⟩
end
theorem dcR_ind {vs : List Nat} {g : RG} {tt : RT} {tk tv : RE} {R : List (List Key) → List D → Env → Prop} {ds : List D} {ρ : Env} (I : List D → List (List Key) → List D → Env → Prop) (h0 : I [] [] [] ρ)
    (turn : ∀ (K : List (List Key) → List D → Env → Prop) done x rest ks xs ρ, ds = done ++ x :: rest → I done ks xs ρ → (∀ ks' xs' ρ', I (done ++ [x]) ks' xs' ρ' → K ks' xs' ρ') → g (.d x) (wipeR ρ vs) fun ρ1 => tt ρ1 (fun b ρ2 => if b = true then tk ρ2 (fun s ρ3 => tv ρ3 (fun t ρ4 => optP s.dat fun kd => optP (keyT kd) fun key => optP t.dat fun y => ks.length < sizeLine ∧ K (ksPut ks key) (putG ks xs key y) ρ4) (fun _ => False)) (fun _ => False) else K ks xs ρ2) fun _ => False)
    (fin : ∀ ks xs ρ, I ds ks xs ρ → R ks xs (wipeR ρ vs)) : dcR vs g tt tk tv R [] [] ds ρ := by
  have key : ∀ rest done ks xs ρ, ds = done ++ rest → I done ks xs ρ → dcR vs g tt tk tv R ks xs rest ρ := by
    intro rest
    induction rest with
    | nil =>
      intro done ks xs ρ e hI
      rw [List.append_nil] at e
      subst e
      exact fin ks xs ρ hI
    | cons x rest ih =>
      intro done ks xs ρ e hI
      exact turn (fun ks xs ρ => dcR vs g tt tk tv R ks xs rest ρ) done x rest ks xs ρ e hI fun ks' xs' ρ' h => ih (done ++ [x]) ks' xs' ρ' (by rw [e, List.append_assoc]; rfl) h
  exact key ds [] [] [] ρ rfl h0
end QL
set_option Elab.async false
set_option linter.all false
set_option maxRecDepth 100000
set_option maxHeartbeats 4000000
/-! try: body / except (c1, c2, c3, c4) as n: suite; all that the body raises is of these classes -/
namespace L2
open PySem PySem.Spec PyProof.Rows
theorem fly_push {B : Heap} {l : List Env} {e : Addr} {Z : Obj → Prop} {h : Heap} (o : Obj) (f : HandSPX.FlyingZ B l e Z h) : HandSPX.FlyingZ B l e Z (h.push o) := by
  obtain ⟨k1, k2, k3, oe, vs, T, oT, ts, he, hz, hd, h1, hnT, hTe, hT, hdT, h3⟩ := f
  exact ⟨fun b u q => Heap.get?_push_of_some _ (k1 b u q), k2, k3.of_keeps fun b u hb _ => ⟨u, Heap.get?_push_of_some _ hb, rfl⟩, oe, vs, T, oT, ts, Heap.get?_push_of_some _ he, hz, hd, h1, hnT, hTe, Heap.get?_push_of_some _ hT, hdT, h3⟩
def wTup (K : PySem.W.Frag) (cs : List Value) (i : Nat) (ts : Addr → Value → Option Addr → TS) (D : Ends) (n : Nat) : WX := fun cls d σ H => σ.length = n →
  PySem.W.exmAny K cls cs = some true ∧ ∀ a, H a = none → ts a cls d { nx := fun σ' H' => D.nx (σ'.set i none) H', rt := D.rt, bk := fun σ' H' => D.bk (σ'.set i none) H', ct := fun σ' H' => D.ct (σ'.set i none) H' } (σ.set i (some (.ref a))) H
section
variable {X : Cx} {x1 x2 x3 x4 n : Str} {c1 c2 c3 c4 : Value} {i : Nat} {body suite : List Stmt} {b₀ : Stmt} {p1 p2 p3 p4 tpos pos pos' : Pos} {kk : Nat} {tb : WX → TS} {ts : Addr → Value → Option Addr → TS}
theorem ld_names {X : Cx} {pins : List (Addr × Obj)} {σ : St} {H : Hp} {s : Shared} {x : Str} {c : Value} {np : Pos} {Q : Value → Shared → Prop} {E : Value → Shared → Prop} (S : Inv X pins σ H s) (hc : Names X x c) (q : Q c s) : wpAny (model X.prog X.w) X.A (eval (.Name x np) X.env) Q E s := by
  obtain ⟨hg, hdbg, hm | ⟨hm, hv, hnn⟩⟩ := hc
  · exact ld_glob S hg hm q hdbg
  · exact ld_blt S hg hm hv q hnn hdbg
theorem ps_try_tup (hs : X.stack = X.env :: X.outer) (hf : X.env.frame = some X.env.locals) (hN : X.N.Nodup) (hi : X.N[i]? = some n) (hln : X.env.kindOf n = some .local) (hc1 : Names X x1 c1) (hc2 : Names X x2 c2) (hc3 : Names X x3 c3) (hc4 : Names X x4 c4)
    (hb : ∀ (W : WX) (pn : List (Addr × Obj)) (xe : Value → Shared → Prop), L2N.Takes (X.tr pn xe) W → PassesOwn (model X.prog X.w) X.A X.env xe → PSs (X.tr pn xe) body (tb W))
    (hsu : ∀ (a : Addr) (oe : Obj) (cls : Value) (d : Option Addr) (pn : List (Addr × Obj)), L2N.Zn cls d oe → (∃ vs, oe.data = .fields vs) → PSs (X.suite a ((a, oe) :: pn)) (b₀ :: suite) (ts a cls d)) :
    PS X (.Try body [.ExceptHandler (some (.Tuple [.Name x1 p1, .Name x2 p2, .Name x3 p3, .Name x4 p4] kk tpos)) (some n) (b₀ :: suite) pos'] [] [] pos) (fun D σ H => tb (wTup X.K [c1, c2, c3, c4] i ts D X.N.length) D σ H) := by
  refine ⟨fun pins s σ H D I h => ?_⟩
  have ok := I.ok
  have hfr : X.A.frames = some (X.env :: X.outer) := by rw [ok.frames, hs]
  have hloc : Loc X.env.scope n := .inl hln
  refine wpAny_Try_except ?_
  refine wpAny_mono ((hb (wTup X.K [c1, c2, c3, c4] i ts D X.N.length) (X.pn ++ pins) (fun e s₁ => wpAny (model X.prog X.w) X.A (noteFrame e X.env) (fun _ s₂ => wpAny (model X.prog X.w) X.A (setFlight e none) (fun _ s₃ =>
    wpAny (model X.prog X.w) X.A (handleBy e X.env [.ExceptHandler (some (.Tuple [.Name x1 p1, .Name x2 p2, .Name x3 p3, .Name x4 p4] kk tpos)) (some n) (b₀ :: suite) pos']) (SP X pins D) X.xe s₃) X.xe s₂) X.xe s₁) (fun u s' xx => ?_) PassesOwn.looking).run [] s σ H D (I.toTry _) h) (fun f s1 hsp => ?_) (fun e s1 he => he)
  · obtain ⟨a, B, sI, pins', σ', H', cls, d, rfl, J', nb, up, sky, na, os, ag, hw⟩ := xx
    have J : Inv X pins σ' H' sI := J'.ofTry ok
    obtain ⟨hb1, hyes⟩ := hw J.len
    have sky' : Sky B (X.env :: X.outer) a (L2N.Zn cls d) X.env.locals s'.heap := by rw [← hs]; exact sky
    show wpAny (model X.prog X.w) X.A (noteFrame (.ref a) X.env) _ _ _
    refine L2N.Sky.land L2N.Zn.steady hfr hf sky' fun h3 fl3 up3 => ?_
    have J3 : Inv X pins σ' H' { s' with heap := h3 } := J.landed nb fl3.1 (up.trans up3) os ag
    obtain ⟨oe3, vs3, he3, hz3, hd3⟩ := fl3.there
    have notFr : ∀ {h : Heap} {o : Obj} {vs : Array Value}, h.FunFrames B (X.env :: X.outer) → h.get? a = some o → o.data = .fields vs → a ∉ frs (X.env :: X.outer) := fun {h o vs} ff e dd hm => by
      obtain ⟨_, o', e', hnf⟩ := ff.mem hm
      rw [e] at e'; cases e'
      exact hnf _ dd
    have nfr := notFr fl3.2.2.1 he3 hd3
    have nL : a ≠ X.env.locals := fun z => nfr (List.mem_filterMap.mpr ⟨X.env, List.mem_cons_self, by rw [hf, z]⟩)
    have nF : a ∉ X.fs := fun hm => by
      obtain ⟨e, he, q⟩ := List.mem_filterMap.mp hm
      exact nfr (List.mem_filterMap.mpr ⟨e, List.mem_cons_of_mem _ he, q⟩)
    have S3 := J3.suite he3 hd3 na nL nF
    refine wpAny_handleBy_cons (codeAny_handlers_test ?_) (by intro q; cases q)
    have LT : PySem.W.Looks (model X.prog X.w) h3 (typeOf (.ref a)) cls := fun A Q E s k q => wpAny_typeOf_ref (k _ _ he3) (by rw [hz3.1]; exact q)
    refine wpAny_Tuple ?_
    refine wpAny_items_cons (ld_names S3 hc1 ?_)
    refine wpAny_items_cons (ld_names S3 hc2 ?_)
    refine wpAny_items_cons (ld_names S3 hc3 ?_)
    refine wpAny_items_cons (ld_names S3 hc4 ?_)
    refine wpAny_items_nil ⟨by size_fits, ?_⟩
    have kp : ∀ q o, h3.get? q = some o → (h3.push { cls := .type "tuple", data := .seq [c1, c2, c3, c4].toArray }).get? q = some o := fun _ _ z => Heap.get?_push_of_some _ z
    have fl5 := fly_push { cls := .type "tuple", data := .seq [c1, c2, c3, c4].toArray } fl3
    have up5 : h3.UpToSlots (h3.push { cls := .type "tuple", data := .seq [c1, c2, c3, c4].toArray }) := fun b o e _ => ⟨o.slots, kp b o e⟩
    refine (PySem.W.exm_tup4 (J3.kIn.keeps kp) (LT.keeps kp) (Heap.get?_push_size h3 rfl) hb1).here ?_
    refine codeAny_handlers_suite_as ?_
    refine HandSPX.lands_againZ fl5 fun h4 fl4 up4 => ?_
    have J4 : Inv X pins σ' H' { s' with heap := h4 } := J.landed nb fl4.1 (((up.trans up3).trans up5).trans up4) os ag
    obtain ⟨oe4, vs4, he4, hz4, hd4⟩ := fl4.there
    have S4 := J4.suite he4 hd4 na nL nF
    refine store_ok (X := X.suite a ((a, oe4) :: (X.pn ++ pins))) (v := .ref a) S4 hN hi hloc rfl (fun s5 S5 => ?_) (.inr hln)
    refine wpAny_mono ((hsu a oe4 cls d (X.pn ++ pins) hz4 ⟨_, hd4⟩).run [] s5 _ H' _ S5 (hyes a na)) (fun f s6 hsp => ?_) (fun _ _ z => False.elim z)
    have end_ : ∀ {σ6 : St} {H6 : Hp} {Q : Shared → Prop}, Inv (X.suite a ((a, oe4) :: (X.pn ++ pins))) [] σ6 H6 s6 → (∀ s7, Inv X pins (σ6.set i none) H6 s7 → Q s7) →
        wpAny (model X.prog X.w) X.A (do bindName X.env n .none; unbindBehindTheSuite X.env n pos') (fun _ s7 => Q s7) X.xe s6 := fun {σ6 H6 Q} S6 hq => gone_ok (S6.unsuite ok) hN hi hln hq
    cases f with
    | next =>
      obtain ⟨σ6, H6, S6, q6⟩ := hsp
      exact end_ S6 fun s7 J7 => ⟨_, _, J7, q6⟩
    | brk =>
      obtain ⟨σ6, H6, S6, q6⟩ := hsp
      exact end_ S6 fun s7 J7 => ⟨_, _, J7, q6⟩
    | cont =>
      obtain ⟨σ6, H6, S6, q6⟩ := hsp
      exact end_ S6 fun s7 J7 => ⟨_, _, J7, q6⟩
    | ret u =>
      obtain ⟨v6, σ6, H6, S6, r6, q6⟩ := hsp
      exact end_ S6 fun s7 J7 => ⟨_, _, _, J7, r6, q6⟩
  · cases f with
    | next =>
      obtain ⟨σ', H', J', q⟩ := hsp
      exact wpAny_execs_nil ⟨σ', H', J'.ofTry ok, q⟩
    | brk =>
      obtain ⟨σ', H', J', q⟩ := hsp
      exact ⟨σ', H', J'.ofTry ok, q⟩
    | cont =>
      obtain ⟨σ', H', J', q⟩ := hsp
      exact ⟨σ', H', J'.ofTry ok, q⟩
    | ret u =>
      obtain ⟨v, σ', H', J', r, q⟩ := hsp
      exact ⟨v, σ', H', J'.ofTry ok, r, q⟩
end
end L2
set_option Elab.async false
set_option linter.all false
set_option maxRecDepth 100000
set_option maxHeartbeats 4000000
namespace L2
open PySem PySem.Spec PyProof.Rows PySem.XS
/-! ### list.count, flat items -/
section
variable {X : Cx}
def rCntF (K : PySem.W.Frag) : V → List V → Hp → VK → Prop := fun x xs H Q => ∃ (a : Addr) (ys : List V) (y : V), x = V.ref a ∧ xs = [y] ∧ SqL K H a ys ∧ flatV y = true ∧ ys.all flatV = true ∧ Q (.int (ys.countP fun z => eqV z y : Nat)) H
theorem countU {y : V} : ∀ {ys : List V} {us : List Value}, Vals ys us → ys.all flatV = true → us.countP (eqU y) = ys.countP fun z => eqV z y
  | _, _, .nil, _ => rfl
  | z :: ys, u :: us, .cons r t, f => by
    rw [List.all_cons, Bool.and_eq_true] at f
    rw [List.countP_cons, List.countP_cons, countU t f.2, eqU_of r f.1]
theorem mt_countF : MtR X "list.count" (rCntF X.K) := by
  intro pins s σ H x xs v us Q I rx rxs h
  obtain ⟨a, ys, y, rfl, rfl, hs, fy, fys, q⟩ := h
  cases rx
  cases rxs with
  | cons ry rt =>
    rename_i uy ut
    cases rt
    obtain ⟨its, rv, ⟨⟨cls, dd, data, sl⟩, n, ho, hc, hdn, hd⟩, hlen⟩ := I.list hs
    simp only at hc hd
    subst hc hd
    refine call_meets PySem.F.slot_list_count ⟨_, ho, rfl⟩ PySem.F.entry_list_count (PySem.F.args_list_count_2 _ _)
      (SeqAt.list_countAt a its.toArray n dd sl uy (eqU y)) ⟨ho, fun u' hu' => mem_eqAt ry fy rv fys u' (by simpa using hu'), ?_⟩
    have ec : its.toArray.toList.countP (eqU y) = ys.countP fun z => eqV z y := countU rv fys
    refine ⟨.int (ys.countP fun z => eqV z y : Nat), H, I.tok _, ⟨s.toks, ?_⟩, q⟩
    show Value.int ((its.toArray.toList.countP (eqU y) : Nat) : Int) s.toks = _
    rw [ec]
end
/-! ### the exception that the suite holds -/
structure PinX (X : Cx) (a : Addr) (cls : Value) (d : Option Addr) : Prop where
  ex : ∃ oe : Obj, (a, oe) ∈ X.pn ∧ L2N.Zn cls d oe ∧ ∃ vs, oe.data = .fields vs
def DxOk (H : Hp) (d : Option Addr) : Prop := ∀ b, d = some b → ∃ fs, H b = some (.xd fs)
section
variable {X : Cx} {a C : Addr} {d : Option Addr} {cls : Value} {pins : List (Addr × Obj)} {σ : St} {H : Hp} {s : Shared}
theorem PinX.inst (p : PinX X a (.ref C) d) (I : Inv X pins σ H s) (h : DxOk H d) : ∃ ox od, PySem.W.InstAt s.heap a ox C od ∧ ∀ b, d = some b → ∃ (o : Obj) (mA : Str → Option Value) (fs : List (Str × V)), od = some o ∧ H b = some (.xd fs) ∧ (∀ n, PySem.W.lookIn n o = some (mA n)) ∧ ∀ f, RelO (fs.lookup f) (mA f) := by
  obtain ⟨oe, hm, ⟨h1, h2, _⟩, vs, hv⟩ := p.ex
  obtain ⟨hget, _⟩ := I.pin (a, oe) (List.mem_append.mpr (.inl hm))
  obtain ⟨oc, od, oda, osl⟩ := oe
  dsimp only at h1 h2 hv
  subst h1 h2 hv
  cases od with
  | none => exact ⟨_, none, ⟨hget, rfl, rfl, trivial⟩, fun b z => nomatch z⟩
  | some b =>
    obtain ⟨fs, hfs⟩ := h b rfl
    obtain ⟨mA, hns, hr⟩ := I.hok b _ hfs
    obtain ⟨o, ho, hl⟩ := lookIn_ns hns
    exact ⟨_, some o, ⟨hget, rfl, rfl, ho⟩, fun b' z => by cases z; exact ⟨o, mA, fs, rfl, hfs, hl, hr⟩⟩
/-- isinstance(e, c) -/
def rIsP (K : PySem.W.Frag) (a : Addr) (cls : Value) (d : Option Addr) : List V → Hp → VK → Prop := fun xs H Q => ∃ (C : Addr) (c : V) (cv : Value) (b : Bool), cls = .ref C ∧ xs = [.ref a, c] ∧ DxOk H d ∧ ECls K C ∧ (∀ u, RelV c u → u = cv) ∧ PySem.W.kitOne K (.ref C) cv = some b ∧ Q (.bl b) H
theorem call_isP (p : PinX X a cls d) : CallR X (.builtin "isinstance") (rIsP X.K a cls d) := by
  intro pins s σ H xs us Q I r h
  obtain ⟨C, c, cv, b, rfl, rfl, hd, T, hcv, e, q⟩ := h
  cases r with
  | cons rx rr =>
    cases rr with
    | cons rt rr =>
      cases rr
      cases rx
      have ec := hcv _ rt
      subst ec
      obtain ⟨ox, od, J, _⟩ := p.inst I hd
      exact PySem.W.kia_one (PySem.W.kitx_exc T.isC T.ga T.gg T.exC T.cl T.cg T.tk T.ob) I.kIn J e (fun z => nomatch z) fun tk => ⟨.bl b, H, I.kept (t' := tk) fun _ _ z => z, rfl, q⟩
/-- e.f -/
def tExP (K : PySem.W.Frag) (a : Addr) (cls : Value) (d : Option Addr) (f : Str) (te : TE) : TE := fun σ H Q => te σ H fun x H1 => ∃ (C dd : Addr) (fs : List (Str × V)) (v : V), cls = .ref C ∧ x = .ref a ∧ d = some dd ∧ H1 dd = some (.xd fs) ∧ fs.lookup f = some v ∧ ECls K C ∧ PySem.W.findIn K (.ref C) f = some none ∧ Q v H1
theorem pe_exP {e : Expr} {te : TE} {f : Str} {pos : Pos} (p : PinX X a cls d) (he : PE X e te) (hb : attributeBase e f X.env (eval e X.env) = eval e X.env := by rfl) : PE X (.Attribute e f pos) (tExP X.K a cls d f te) := by
  refine ⟨fun pins s σ H Q I h => ?_⟩
  refine attr_of hb (thn (he.run pins s σ H _ I h) fun u s1 hh => ?_)
  obtain ⟨x, H1, I1, rx, C, dd, fs, v, rfl, ex, rfl, hfs, l, T, hno, q⟩ := hh
  subst ex
  obtain rfl : u = Value.ref a := rx
  obtain ⟨ox, od, J, hJ⟩ := p.inst I1 (fun b z => by cases z; exact ⟨fs, hfs⟩)
  obtain ⟨o, mA, fs', rfl, hfs', hl, hr⟩ := hJ dd rfl
  rw [hfs] at hfs'
  cases hfs'
  obtain ⟨u, hu, ru⟩ := RelO.some_of (v := v) (o := mA f) (by rw [← l]; exact hr f)
  exact HandSPX.exc_get I1.kIn J T.ga T.gg T.exC (PySem.W.findObj_own T.hd hno rfl (by rw [hl, hu])) (handed_of ru) ⟨v, H1, I1.tok _, ru, q⟩
end
/-! ### a def called there, which gets it -/
structure FnP (P : Program) (w : World) (K : PySem.W.Frag) (mg : Str → Option Value) (base : Heap) (k : Nat) (f : Addr) (fd : FuncData) (ps : List Str) (a : Addr) (cls : Value) (d : Option Addr) (sp : Sp) : Prop where
  len : ∀ vs H Q E, sp vs H Q E → vs.length = ps.length
  run : ∀ (A : Around) (outer : List Env) (s : Shared) (H : Hp) (args : Args) (us : List Value) (vs : List V) (Q : VK) (oe : Obj), L2H.RoomH k A → L2N.Zn cls d oe → (∃ vs, oe.data = .fields vs) → L2H.PinOk outer H s (a, oe) → Env0 P w K mg base A outer s H → BindsTo s fd args (ps.zip us) → Vals vs us → sp vs H Q E0 →
    codeAny (model P w) A (.call (.ref f) args) (CR (L2N.CX P w) outer P w H s Q E0) s
theorem fn_ofP {P : Program} {w : World} {K : PySem.W.Frag} {mg : Str → Option Value} {base : Heap} {k : Nat} {f a : Addr} {cls : Value} {d : Option Addr} {name qual : Str} {params : Arguments} {body : List Stmt} {scope : Scope} {dV kV doc pm cdv ct oc : Value} {an od : Option Addr}
    {osl : Array (Option Value)} {N ps : List Str} {sp : Sp} (lk : K.lookup f = some ⟨oc, od, .func (PySem.W.fnOf name qual params body scope dV kV doc pm an cdv ct), osl⟩) (hcd : PySem.W.codeIn K cdv qual = true) (S : FnScope N ps scope)
    (len : ∀ vs H Q E, sp vs H Q E → vs.length = ps.length)
    (hbody : ∀ (A : Around) (outer : List Env) (s : Shared) (H : Hp) (vs : List V) (Q : VK) (oe : Obj), L2N.Zn cls d oe → (∃ vs, oe.data = .fields vs) → L2H.RoomH k (A.deeper (envOfC qual scope s.heap.objs.size f cdv)) → sp vs H Q E0 →
      ∃ t, PSs (L2H.cxH (L2N.CX P w) P w K mg base N qual scope f cdv A outer s H E0 (a, oe)) body t ∧ t { nx := fun _ H' => Q .non H', rt := Q } (L2.start N vs) H) :
    FnP P w K mg base (k + 1) f (PySem.W.fnOf name qual params body scope dV kV doc pm an cdv ct) ps a cls d sp := by
  refine ⟨len, fun A outer s H args us vs Q oe hr hz hf hpin e0 hb r hsp => ?_⟩
  have hl := len _ _ _ _ hsp
  have KX : K.In s.heap := e0.mod.kin.keeps fun b o e => (e0.bs b o e).1
  have lim : s.heap.NoLimit := e0.mod.nolimit.keeps fun b o e => (e0.bs b o e).1
  have hkind : ∀ y ∈ ps.zip us, scope.names.lookup y.1 = some .local ∨ (scope.names.lookup y.1 = some .cell ∧ ((cellsFrom (s.heap.objs.size + 1) scope.names []).lookup y.1).isSome = true) := fun ⟨n, v⟩ hy => by
    rcases S.par n (List.of_mem_zip hy).1 with q | q
    · exact .inl q
    · exact .inr ⟨q, PySem.W.cellsFrom_some _ _ _ (.inl q)⟩
  refine codeAny_call_function hr.depth (KX _ _ lk) rfl S.co S.gen rfl (PySem.W.codeRec_of KX hcd) (hb _ _ _ _ ?_)
  refine wpAny_newFunctionEnv_cells S.kind hkind fun env he s1 x => ?_
  subst he
  refine ⟨lim.keeps x.toInCall.keep, codeAny_func ?_⟩
  obtain ⟨t, ht, hq⟩ := hbody A outer s H vs Q oe hz hf (hr.deeper _) hsp
  have I : Inv (L2H.cxH (L2N.CX P w) P w K mg base N qual scope f cdv A outer s H E0 (a, oe)) [] (L2.start N vs) H s1 := L2H.inv_startH S hpin e0 hl r x
  refine wpAny_mono (ht.run [] s1 (L2.start N vs) H _ I hq) (fun fl s' hs => ?_) fun e s' hs => hs
  have fin : ∀ {σ' : St} {H' : Hp} {v : V} {u : Value}, Inv (L2H.cxH (L2N.CX P w) P w K mg base N qual scope f cdv A outer s H E0 (a, oe)) [] σ' H' s' → RelV v u → Q v H' → CE outer P w H s Q u s' :=
    fun {σ' H' v u} J rv q => ⟨v, H', J.os, J.bare, J.base, J.hok, rv, q⟩
  cases fl with
  | ret u =>
    obtain ⟨v, σ', H', J, rv, q⟩ := hs
    exact fin J rv q
  | next =>
    obtain ⟨σ', H', J, q⟩ := hs
    exact fin (v := V.non) (u := Value.none) J rfl q
  | brk =>
    obtain ⟨_, _, _, q⟩ := hs
    exact False.elim q
  | cont =>
    obtain ⟨_, _, _, q⟩ := hs
    exact False.elim q
section
variable {X : Cx} {k : Nat} {f a : Addr} {cls : Value} {d : Option Addr} {fd : FuncData} {ps : List Str} {sp : Sp} {x : Str} {q pos : Pos} {e : Expr} {es : List Expr} {t : TA}
theorem pe_callP (F : FnP X.prog X.w X.K X.mg X.base k f fd ps a cls d sp) (hr : L2H.RoomH k X.A) (p : PinX X a cls d) (hg : Gl X x) (hm : X.mg x = some (.ref f)) (hk : PySem.W.keepIn X.K (.ref f) = true) (hb : Binds X.K fd ps []) 
    (ha : PA X (e :: es) t) (hdb : (x == ("__debug__" : Str)) = false := by decide) (he : starEach (e :: es) X.env = (false, eval e X.env) :: starEach es X.env := by rfl) (hpl : (backTo pos (starEach es X.env)).any (·.1) = false := by rfl) :
    PE X (.Call (.Name x q) (e :: es) [] pos) (tCall sp [] E0 t) := by
  refine ⟨fun pins s σ H Q I h => ?_⟩
  refine wpAny_Call_Name_kw (ld_glob I hg hm ?_ hdb)
  refine PySem.W.callWith_K (h₀ := X.base) I.ok.mod.kin hk (thn (ha.run pos pins s σ H _ I h) fun us s1 ⟨vs, H1, I1, r, q⟩ => ⟨I1.kIn, ?_⟩) he hpl
  obtain ⟨oe, hp, hz, hf⟩ := p.ex
  have q : sp vs H1 Q E0 := by
    have z : sp (vs ++ []) H1 Q E0 := q
    rwa [List.append_nil] at z
  have hl : us.length = ps.length := by rw [← r.length]; exact F.len _ _ _ _ q
  have b := hb s1 us I1.kIn (by rw [List.append_nil]; exact hl)
  rw [List.append_nil] at b
  have P1 := I1.pin (a, oe) (List.mem_append_left _ hp)
  have hpin : L2H.PinOk X.stack H1 s1 (a, oe) := ⟨P1.1, P1.2.1, fun hm => (List.mem_cons.mp (I1.stkSub a hm)).elim P1.2.2.1 P1.2.2.2.1, P1.2.2.2.2⟩
  refine wpAny_call (codeAny_mono (F.run X.A X.stack s1 H1 ⟨us, []⟩ us vs Q oe hr hz hf hpin I1.env0 b r q) fun r s' hq => ?_)
  cases r with
  | error e => exact QL.passN pins σ H1 s1 e s' I1 hq
  | ok fl =>
    cases fl with
    | ret u => exact I1.after hq
    | next => exact False.elim hq
    | brk => exact False.elim hq
    | cont => exact False.elim hq
end
end L2
set_option Elab.async false
set_option linter.all false
set_option maxRecDepth 100000
set_option maxHeartbeats 4000000
namespace QL
open PySem L2
open PySem.W (Frag)
/-! ### repr -/
def rRepA (K : Frag) (A : Around) : List V → Hp → VK → Prop := fun xs H Q => (xs = [.non] ∧ Q (.str "None") H) ∨ (∃ b, xs = [.bl b] ∧ Q (.str (if b then "True" else "False")) H) ∨ (∃ i : Int, xs = [.int i] ∧ i.natAbs.log2 < 1920 ∧ Q (.str (toString i)) H) ∨ (∃ z, xs = [.str z] ∧ (reprText z).length ≤ sizeLine ∧ Q (.str (reprText z)) H) ∨ rRepr K A xs H Q ∨ ∃ a, xs = [V.ref a] ∧ H a = some (.dK []) ∧ A.guards = some [] ∧ Q (.str "{}") H
/-- repr({}) -/
theorem reads_dk0 {P : Program} {w : World} {H : Hp} {h : Heap} {a : Addr} (o : HOk P w H h) (e : H a = some (.dK [])) : Reads h (.ref a) (.dict []) (a :: [] ++ []) ∧ (a == sysModules) = false := by
  obtain ⟨_, hs, vs, kv, ob, es, ep, h1, h2, h3, h4⟩ := o a _ e
  cases kv
  have e5 : es.toList = [] := by
    have z := h4.2.1
    generalize es.toList = l at z
    cases z
    rfl
  refine ⟨.dict (kvs := []) h1 h2.1 h3 ?_ ?_, hs⟩
  · rw [e5]; exact .nil
  · rw [e5]; exact .nil
theorem call_repA {X : Cx} (hu : X.A.units + 64 < cLine) : CallR X (.builtin "repr") (rRepA X.K X.A) := by
  intro pins s σ H xs us Q I r h
  rcases h with ⟨rfl, q⟩ | ⟨b, rfl, q⟩ | ⟨i, rfl, hz, q⟩ | ⟨z, rfl, hz, q⟩ | h | h
  · cases r with
    | cons rx rr =>
      cases rr
      cases rx
      exact PySem.P.repr_of_none ⟨.str _, H, I.tok _, ⟨_, rfl⟩, q⟩
  · cases r with
    | cons rx rr =>
      cases rr
      cases rx
      exact PySem.P.repr_of_bool ⟨.str _, H, I.tok _, ⟨_, by cases b <;> rfl⟩, q⟩
  · obtain ⟨u, rfl, t, rfl⟩ := vals1 r
    exact PySem.P.repr_of_int hz ⟨.str _, H, I.tok _, ⟨_, rfl⟩, q⟩
  · obtain ⟨u, rfl, t, rfl⟩ := vals1 r
    exact PySem.P.repr_of_str ⟨.str _, H, I.tok _, ⟨_, rfl⟩, q⟩ hz
  · exact call_repr hu pins s σ H xs us Q I r h
  · obtain ⟨a, rfl, ha, hg, q⟩ := h
    cases r with
    | cons rx rr =>
      cases rr
      cases rx
      obtain ⟨rd, hs⟩ := reads_dk0 I.hok ha
      refine PySem.repr_of_reads' (h₀ := s.heap) rd (by decide +kernel) (fun _ z => ?_) hg (by show X.A.units + (1 + 1) < cLine; omega) (fun _ _ z => z) (fun h' u tk k => ?_) (by decide +kernel)
      · have z2 : sysModules = a := by simpa using z
        rw [z2] at hs
        simp at hs
      · exact ⟨.str _, H, I.kept (t' := tk) k, ⟨u, rfl⟩, q⟩
def shC (g : Bool) (x : D) (R : S → Prop) : Prop := (g = true ∧ plD x = true ∧ (toP x).showable = true ∧ (toP x).hasDict = false ∧ (toP x).depth ≤ 60 ∧ okS (toP x).shown) ∧ R (.d (.str (toP x).shown))
def gRepr (g : Bool) : G1
  | [.non], R => R (.d (.str "None"))
  | [.bl b], R => R (.d (.str (if b then "True" else "False")))
  | [.int i], R => (i.natAbs.log2 < 1920 ∧ okS (Str.ofString (toString i))) ∧ R (.d (.str (toString i)))
  | [.str z], R => okS (reprText z) ∧ R (.d (.str (reprText z)))
  | [.tup xs], R => shC g (.tup xs) R
  | [.lst xs], R => shC g (.lst xs) R
  | [.dk [] []], R => g = true ∧ R (.d (.str "{}"))
  | _, _ => False
theorem v_repr {W : Wd} {A : Around} {g : Bool} (hg : g = true → A.guards = some []) : Val1 W (rRepA W.K A) (gRepr g) := fun H O vs ds Q R h hr q => by
  have one : ∀ {d : D}, ds = [d] → ∃ v, vs = [v] ∧ At W H O v d := fun {d} e => by
    subst e
    cases h with
    | cons a t => cases t; exact ⟨_, rfl, a⟩
  unfold gRepr at hr
  split at hr
  · obtain ⟨v, rfl, a⟩ := one rfl
    cases a
    exact .inl ⟨rfl, q.here (.str _ (by decide +kernel)) hr⟩
  · rename_i b
    obtain ⟨v, rfl, a⟩ := one rfl
    cases a
    exact .inr (.inl ⟨b, rfl, q.here (.str _ (by cases b <;> decide +kernel)) hr⟩)
  · obtain ⟨v, rfl, a⟩ := one rfl
    cases a
    exact .inr (.inr (.inl ⟨_, rfl, hr.1.1, q.here (.str _ hr.1.2) hr.2⟩))
  · obtain ⟨v, rfl, a⟩ := one rfl
    cases a
    exact .inr (.inr (.inr (.inl ⟨_, rfl, hr.1.1, q.here (.str _ hr.1) hr.2⟩)))
  · obtain ⟨v, rfl, a⟩ := one rfl
    obtain ⟨⟨h1, h2, h3, h4, h5, h6⟩, hr⟩ := hr
    have hd := a.dp h2
    cases a with
    | tup g1 g2 => exact .inr (.inr (.inr (.inr (.inl ⟨_, _, rfl, hd, hg h1, h3, h4, h5, h6.1, q.here (.str _ h6) hr⟩))))
  · obtain ⟨v, rfl, a⟩ := one rfl
    obtain ⟨⟨h1, h2, h3, h4, h5, h6⟩, hr⟩ := hr
    have hd := a.dp h2
    cases a with
    | lst g1 g2 g3 => exact .inr (.inr (.inr (.inr (.inl ⟨_, _, rfl, hd, hg h1, h3, h4, h5, h6.1, q.here (.str _ h6) hr⟩))))
  · obtain ⟨v, rfl, a⟩ := one rfl
    cases a with
    | dk g1 g2 g3 g4 => exact .inr (.inr (.inr (.inr (.inr ⟨_, rfl, g1, hg hr.1, q.here (.str _ (by decide +kernel)) hr.2⟩))))
  · exact hr.elim
section
variable {G : Gw} {E : XK} {X : Cx} {k : Nat} {gq : Bool} {a b : Expr} {es : List Expr} {ta tb : TE} {ra rb : RE} {pos p p2 apos cpos : Pos} {t : TA} {r : RA}
theorem de_reprQ {g : Bool} (c : Cq G X) (hgd : g = true → X.A.guards = some []) (T : Bn X.mg) (h : DA G E X (a :: es) t r) (hg : Gl X "repr" := by rfl)
    (he : starEach (a :: es) X.env = (false, eval a X.env) :: starEach es X.env := by rfl) (hpl : (backTo pos (starEach es X.env)).any (·.1) = false := by rfl) :
    DE G E X (.Call (.Name "repr" p) (a :: es) [] pos) (tCB (rRepA G.W.K X.A) t) (rCB (lift1 (gRepr g)) r) := de_callB (by have z := call_repA (X := X) c.u64; rw [c.K] at z; exact z) (bv1 (v_repr hgd)) T.rep (by decide +kernel) h hg (by decide) (by decide) he hpl
theorem de_repr (c : Cn G E X k gq) (T : Bn X.mg) (h : DA G E X (a :: es) t r) (hg : Gl X "repr" := by rfl)
    (he : starEach (a :: es) X.env = (false, eval a X.env) :: starEach es X.env := by rfl) (hpl : (backTo pos (starEach es X.env)).any (·.1) = false := by rfl) :
    DE G E X (.Call (.Name "repr" p) (a :: es) [] pos) (tCB (rRepA G.W.K X.A) t) (rCB (lift1 (gRepr gq)) r) := de_reprQ c c.gd T h hg he hpl
/-! ### count, index of truths -/
def boolsD : List D → Option (List Bool)
  | [] => some []
  | .bl b :: xs => match boolsD xs with
    | some bs => some (b :: bs)
    | none => none
  | _ => none
theorem boolsD_at {W : Wd} {H : Hp} {O : List Addr} : ∀ {xs : List D} {bs : List Bool} {vs : List V}, boolsD xs = some bs → AtL W H O vs xs → vs = bs.map V.bl
  | [], _, _, e, .nil => by cases e; rfl
  | x :: xs, bs, v :: vs, e, .cons a t => by
    cases x with
    | bl b =>
      unfold boolsD at e
      split at e
      · rename_i bs' hb
        cases e
        cases a
        rw [List.map_cons, ← boolsD_at hb t]
      · cases e
    | _ => cases e
def rCnt' (ra rb : RE) : RE := fun ρ R e => ra ρ (fun s ρ1 => match s.dat with
  | some (.lst xs) => rb ρ1 (fun t ρ2 => match t.dat with
    | some (.bl b) => optP (boolsD xs) fun bs => R (.d (.int (bs.count b : Nat))) ρ2
    | _ => False) e
  | _ => False) e
def rIdx' (ra rb : RE) : RE := fun ρ R e => ra ρ (fun s ρ1 => match s.dat with
  | some (.lst xs) => rb ρ1 (fun t ρ2 => match t.dat with
    | some (.bl b) => optP (boolsD xs) fun bs => optP (bs.idxOf? b) fun j => R (.d (.int (j : Nat))) ρ2
    | _ => False) e
  | _ => False) e
theorem flat_bl (bs : List Bool) : (bs.map V.bl).all flatV = true := by
  rw [List.all_eq_true]
  intro x hx
  obtain ⟨b, _, rfl⟩ := List.mem_map.mp hx
  rfl
theorem count_bl (b : Bool) : ∀ bs : List Bool, (bs.map V.bl).countP (fun z => eqV z (.bl b)) = bs.count b
  | [] => rfl
  | c :: bs => by
    rw [List.map_cons, List.countP_cons, List.count_cons, count_bl b bs] <;> rfl
theorem idx_bl {b : Bool} {bs : List Bool} {j : Nat} (h : bs.idxOf? b = some j) : (bs.map V.bl)[j]? = some (V.bl b) ∧ ∀ (m : Nat) (z : V), m < j → (bs.map V.bl)[m]? = some z → eqV z (.bl b) = false := by
  unfold List.idxOf? at h
  obtain ⟨hj, h1, h2⟩ := List.findIdx?_eq_some_iff_getElem.mp h
  refine ⟨?_, fun m z hm hz => ?_⟩
  · rw [List.getElem?_map, List.getElem?_eq_getElem hj]
    rw [beq_iff_eq] at h1
    rw [h1] <;> rfl
  · have hml : m < bs.length := by omega
    rw [List.getElem?_map, List.getElem?_eq_getElem hml] at hz
    cases hz
    have this := h2 m hm
    show (bs[m] == b) = false
    simpa using this
theorem de_cnt (c : Cq G X) (ha : DE G E X a ta ra) (hb : DE G E X b tb rb) (hbase : attributeBase a "count" X.env (eval a X.env) = eval a X.env := by rfl)
    (hfew : ((backTo cpos (starEach (b :: []) X.env)).all (fun x => !x.1) && (backToKw cpos (keywordEach [] X.env)).all (fun x => x.1.isSome) && decide ((b :: []).length + ([] : List Keyword).length + (if ([] : List Keyword).isEmpty then 0 else 1) < 30)) = true := by rfl)
    (hline : (apos.endLine == cpos.line) = true := by rfl) (hs : starEach (b :: []) X.env = (false, eval b X.env) :: starEach [] X.env := by rfl) (hplain : (backTo cpos (starEach [] X.env)).any (·.1) = false := by rfl) :
    DE G E X (.Call (.Attribute a "count" apos) [b] [] cpos) (tBM G.W.K "list" (rCntF G.W.K) ta (tCons tb tNil)) (rCnt' ra rb) := by
  refine ⟨?_, fun σ H ρ Γ Q R e re hr q o => ha.s σ H ρ Γ _ _ e re hr (fun v s ρ1 H1 r1 h1 => ?_) o⟩
  · have z := pe_bm PySem.F.plainAttrs_list PySem.F.slot_list_count PySem.F.type_list_count mt_countF ha.p (pa_cons hb.p pa_nil hs) hbase hfew hline hs hplain
    rw [c.K] at z
    exact z
  · try dsimp only at h1
    split at h1
    · rename_i xs hx
      have r2 := r1.dat hx
      have z1 : At G.W H1 _ v (.lst xs) := r2.head
      cases z1 with
      | @lst l1 vs1 _ g1 g2 g3 =>
        refine ⟨.inl ⟨rfl, _, .inl (.inl g1)⟩, hb.s σ H1 ρ1 _ _ _ e r2 h1 (fun w t ρ2 H2 r3 h2 => ?_) o.tail⟩
        try dsimp only at h2
        split at h2
        · rename_i y hy
          obtain ⟨bs, hbs, h2⟩ := opt_get h2
          have r4 := r3.dat hy
          have z2 : At G.W H2 _ w (.bl y) := r4.head
          cases z2
          have z3 : At G.W H2 _ (.ref l1) (.lst xs) := r4.drop.head
          cases z3 with
          | lst g4 g5 g6 =>
            have ev := boolsD_at hbs g6
            subst ev
            refine ⟨_, _, .bl y, rfl, rfl, .inl (.inl g4), rfl, flat_bl bs, ?_⟩
            rw [count_bl]
            exact q _ _ _ _ (r4.drop.drop.data (.int _)) h2
        · exact False.elim h2
    · exact False.elim h1
theorem de_idx (c : Cq G X) (ha : DE G E X a ta ra) (hb : DE G E X b tb rb) (hbase : attributeBase a "index" X.env (eval a X.env) = eval a X.env := by rfl)
    (hfew : ((backTo cpos (starEach (b :: []) X.env)).all (fun x => !x.1) && (backToKw cpos (keywordEach [] X.env)).all (fun x => x.1.isSome) && decide ((b :: []).length + ([] : List Keyword).length + (if ([] : List Keyword).isEmpty then 0 else 1) < 30)) = true := by rfl)
    (hline : (apos.endLine == cpos.line) = true := by rfl) (hs : starEach (b :: []) X.env = (false, eval b X.env) :: starEach [] X.env := by rfl) (hplain : (backTo cpos (starEach [] X.env)).any (·.1) = false := by rfl) :
    DE G E X (.Call (.Attribute a "index" apos) [b] [] cpos) (tBM G.W.K "list" (rIndex G.W.K) ta (tCons tb tNil)) (rIdx' ra rb) := by
  refine ⟨?_, fun σ H ρ Γ Q R e re hr q o => ha.s σ H ρ Γ _ _ e re hr (fun v s ρ1 H1 r1 h1 => ?_) o⟩
  · have z := pe_bm PySem.F.plainAttrs_list PySem.F.slot_list_index PySem.F.type_list_index mt_index ha.p (pa_cons hb.p pa_nil hs) hbase hfew hline hs hplain
    rw [c.K] at z
    exact z
  · try dsimp only at h1
    split at h1
    · rename_i xs hx
      have r2 := r1.dat hx
      have z1 : At G.W H1 _ v (.lst xs) := r2.head
      cases z1 with
      | @lst l1 vs1 _ g1 g2 g3 =>
        refine ⟨.inl ⟨rfl, _, .inl (.inl g1)⟩, hb.s σ H1 ρ1 _ _ _ e r2 h1 (fun w t ρ2 H2 r3 h2 => ?_) o.tail⟩
        try dsimp only at h2
        split at h2
        · rename_i y hy
          obtain ⟨bs, hbs, h2⟩ := opt_get h2
          obtain ⟨j, hj, h2⟩ := opt_get h2
          have r4 := r3.dat hy
          have z2 : At G.W H2 _ w (.bl y) := r4.head
          cases z2
          have z3 : At G.W H2 _ (.ref l1) (.lst xs) := r4.drop.head
          cases z3 with
          | lst g4 g5 g6 =>
            have ev := boolsD_at hbs g6
            subst ev
            obtain ⟨i1, i2⟩ := idx_bl hj
            exact ⟨_, _, .bl y, j, .bl y, rfl, rfl, .inl (.inl g4), rfl, flat_bl bs, i1, by cases y <;> rfl, i2, q _ _ _ _ (r4.drop.drop.data (.int _)) h2⟩
        · exact False.elim h2
    · exact False.elim h1
end
end QL
set_option Elab.async false
set_option linter.all false
set_option maxRecDepth 100000
set_option maxHeartbeats 4000000
namespace QL
open PySem L2 PySem.XS
open PySem.W (Frag)
/-! ### in an except suite -/
structure XtOk (G : Gw) (u : Value) (xt : Nat → Option Bool) : Prop where
  ok : ∀ c b, xt c = some b → ECls G.W.K (G.W.CA c) ∧ PySem.W.kitOne G.W.K (.ref (G.W.CA c)) u = some b
def rIsE (G : Gw) (a : Addr) (cls : Value) (d : Option Addr) (xt : Nat → Option Bool) (ra : RE) : RE := fun ρ R e => ra ρ (fun s ρ' => match s with
  | .d (.exc a' c d' _ _) => (a' = a ∧ d' = d ∧ cls = .ref (G.W.CA c)) ∧ optP (xt c) fun b => R (.d (.bl b)) ρ'
  | _ => False) e
def ExFOk (G : Gw) (cs : List Nat) (f : Str) : Prop := ∀ c ∈ cs, ECls G.W.K (G.W.CA c) ∧ PySem.W.findIn G.W.K (.ref (G.W.CA c)) f = some none
def rExF (G : Gw) (a : Addr) (cls : Value) (d : Option Addr) (cs : List Nat) (f : Str) (ra : RE) : RE := fun ρ R e => ra ρ (fun s ρ' => match s with
  | .d (.exc a' c d' fs xs) => (a' = a ∧ d' = d ∧ cls = .ref (G.W.CA c) ∧ d.isSome = true ∧ c ∈ cs) ∧ optP (getG fs xs f) fun x => R (.d x) ρ'
  | _ => False) e
section
variable {G : Gw} {E : XK} {X : Cx} {k : Nat} {gq : Bool} {e0 b : Expr} {es : List Expr} {ta tb : TE} {ra rb : RE} {pos p p2 apos cpos : Pos} {t : TA} {r : RA} {a : Addr} {cls : Value} {d : Option Addr}
theorem snd_isP {c : V} {u : Value} {xt : Nat → Option Bool} (hc : ∀ v, RelV c v → v = u) (I : XtOk G u xt) (h : SndE G E ta ra) : SndE G E (tCB (rIsP G.W.K a cls d) (tCons ta (tCons (tC c) tNil))) (rIsE G a cls d xt ra) := fun σ H ρ Γ Q R e re hr q o =>
  h σ H ρ Γ _ _ e re hr (fun v s ρ' H' r' h' => by
    try dsimp only at h'
    split at h'
    · rename_i a' c' d' fs xs
      obtain ⟨⟨rfl, rfl, rfl⟩, h'⟩ := h'
      obtain ⟨b, hb, h'⟩ := opt_get h'
      obtain ⟨i1, i2⟩ := I.ok _ _ hb
      have z : At G.W H' _ v (.exc a' c' d' fs xs) := r'.head
      cases z with
      | exc g1 g2 g3 => exact ⟨_, c, u, b, rfl, rfl, fun y hy => ⟨_, (g1 y hy).1⟩, i1, hc, i2, q _ _ _ _ (r'.drop.data (.bl b)) h'⟩
    · exact False.elim h') o
theorem de_isPB {x : Str} {T : String} {xt : Nat → Option Bool} (c : Cq G X) (P : PinX X a cls d) (B : Bn X.mg) (h : DE G E X e0 ta ra) (hm : X.mg x = none) (hv : bootBuiltins x = some (.type T)) (I : XtOk G (.type T) xt) (hg : Gl X "isinstance" := by rfl) (hgx : Gl X x := by rfl) (hn : x ≠ "__name__" := by decide) (hd : (x == ("__debug__" : Str)) = false := by decide)
    (he : starEach [e0, .Name x p2] X.env = (false, eval e0 X.env) :: starEach [.Name x p2] X.env := by rfl) (he2 : starEach [.Name x p2] X.env = (false, eval (.Name x p2) X.env) :: starEach [] X.env := by rfl) (hpl : (backTo pos (starEach [.Name x p2] X.env)).any (·.1) = false := by rfl) :
    DE G E X (.Call (.Name "isinstance" p) [e0, .Name x p2] [] pos) (tCB (rIsP G.W.K a cls d) (tCons ta (tCons (tC (.ty T)) tNil))) (rIsE G a cls d xt ra) :=
  ⟨pe_callB (by have z := call_isP P; rw [c.K] at z; exact z) hg B.isi (by decide +kernel) (pa_cons h.p (pa_cons (pe_bltn (v := .ty T) hgx hm hv rfl hn hd) pa_nil he2) he) (by decide) (by decide) he hpl, snd_isP (fun _ r => r) I h.s⟩
theorem de_isPC {x : Str} {C : Addr} {xt : Nat → Option Bool} (c : Cq G X) (P : PinX X a cls d) (B : Bn X.mg) (h : DE G E X e0 ta ra) (hm : X.mg x = some (.ref C)) (I : XtOk G (.ref C) xt) (hg : Gl X "isinstance" := by rfl) (hgx : Gl X x := by rfl) (hd : (x == ("__debug__" : Str)) = false := by decide)
    (he : starEach [e0, .Name x p2] X.env = (false, eval e0 X.env) :: starEach [.Name x p2] X.env := by rfl) (he2 : starEach [.Name x p2] X.env = (false, eval (.Name x p2) X.env) :: starEach [] X.env := by rfl) (hpl : (backTo pos (starEach [.Name x p2] X.env)).any (·.1) = false := by rfl) :
    DE G E X (.Call (.Name "isinstance" p) [e0, .Name x p2] [] pos) (tCB (rIsP G.W.K a cls d) (tCons ta (tCons (tC (.ref C)) tNil))) (rIsE G a cls d xt ra) :=
  ⟨pe_callB (by have z := call_isP P; rw [c.K] at z; exact z) hg B.isi (by decide +kernel) (pa_cons h.p (pa_cons (pe_glob (v := .ref C) hgx hm rfl hd) pa_nil he2) he) (by decide) (by decide) he hpl, snd_isP (fun _ r => r) I h.s⟩
theorem de_exF {cs : List Nat} {f : Str} (c : Cq G X) (P : PinX X a cls d) (hf : ExFOk G cs f) (h : DE G E X e0 ta ra) (hb : attributeBase e0 f X.env (eval e0 X.env) = eval e0 X.env := by rfl) : DE G E X (.Attribute e0 f pos) (tExP G.W.K a cls d f ta) (rExF G a cls d cs f ra) := by
  refine ⟨?_, fun σ H ρ Γ Q R e re hr q o => h.s σ H ρ Γ _ _ e re hr (fun v s ρ' H' r' h' => ?_) o⟩
  · have z := pe_exP (pos := pos) P h.p hb
    rw [c.K] at z
    exact z
  · try dsimp only at h'
    split at h'
    · rename_i a' c' d' fs xs
      obtain ⟨⟨rfl, rfl, rfl, hs, hc⟩, h'⟩ := h'
      obtain ⟨x, hx, h'⟩ := opt_get h'
      obtain ⟨i1, i2⟩ := hf _ hc
      obtain ⟨dd, rfl⟩ := Option.isSome_iff_exists.mp hs
      have z : At G.W H' _ v (.exc a' c' (some dd) fs xs) := r'.head
      cases z with
      | exc g1 g2 g3 =>
        obtain ⟨w, g7, g8⟩ := (getG_at f g3).1 x hx
        refine ⟨_, dd, _, w, rfl, rfl, rfl, (g1 dd rfl).1, by rw [lookup_zip]; exact g7, i1, i2, q _ _ _ _ (r'.drop.data ?_) h'⟩
        exact At.step (step_perm fun b hb => by rw [owns_cons]; exact hb) g8
    · exact False.elim h'
theorem de_callP {n : Nat} {sp : PSp} {f : Addr} {fd : FuncData} {ps : List Str} {x : Str} (F : FnP X.prog X.w X.K X.mg X.base k f fd ps a cls d (toSp G n sp)) (hr : L2H.RoomH k X.A) (P : PinX X a cls d) (hm : X.mg x = some (.ref f)) (hk : PySem.W.keepIn X.K (.ref f) = true) (hb : Binds X.K fd ps []) (h : DA G E0 X (e0 :: es) t r) (hg : Gl X x := by rfl) (hdb : (x == ("__debug__" : Str)) = false := by decide)
    (he : starEach (e0 :: es) X.env = (false, eval e0 X.env) :: starEach es X.env := by rfl) (hpl : (backTo pos (starEach es X.env)).any (·.1) = false := by rfl) :
    DE G E0 X (.Call (.Name x p) (e0 :: es) [] pos) (tCall (toSp G n sp) [] E0 t) (rCall n sp r) := ⟨pe_callP F hr P hg hm hk hb h.p hdb he hpl, snd_call h.s⟩
end
/-- a def called in an except suite, without the heap -/
theorem fn_pureP {P : Program} {w : World} {mg : Str → Option Value} {base : Heap} {G : Gw} {k : Nat} {f a : Addr} {cls : Value} {d : Option Addr} {fd : FuncData} {ps : List Str} {sp : PSp} {x qual : Str} {st : Stmt} {N : List Str} (F : Fun G.W.K x qual st f fd) (S : FnScope N ps (defScope st)) (hn : ps.length ≤ N.length)
    (body : ∀ (cdv : Value) (A : Around) (outer : List PySem.Env) (s : Shared) (H : Hp) (oe : Obj), Cq G (L2H.cxH (L2N.CX P w) P w G.W.K mg base N qual (defScope st) f cdv A outer s H E0 (a, oe)) → PinX (L2H.cxH (L2N.CX P w) P w G.W.K mg base N qual (defScope st) f cdv A outer s H E0 (a, oe)) a cls d →
      ∃ t r, DSs G E0 (L2H.cxH (L2N.CX P w) P w G.W.K mg base N qual (defScope st) f cdv A outer s H E0 (a, oe)) (defBody st) t r ∧ ∀ ss R e, sp ss R e → ss.length = ps.length → r (defEnds ps.length R e) (startR ss N.length)) :
    FnP P w G.W.K mg base (k + 1) f fd ps a cls d (toSp G ps.length sp) := by
  obtain ⟨oc, od, kV, doc, pm, an, cdv, ct, osl, rfl, lk, hcd⟩ := F.ex
  refine fn_ofP lk hcd S toSp_len fun A outer s H vs Q oe hz hf hr hsp => ?_
  obtain ⟨ss, Γ, R, e, h1, h2, h3, h4, h5, h6⟩ := hsp
  obtain ⟨t, r, hd, hb⟩ := body cdv A outer s H oe ⟨rfl, by have := hr.un; show (A.deeper _).units + 200 < _; omega⟩ ⟨oe, List.mem_cons_self, hz, hf⟩
  refine ⟨t, hd.p, ?_⟩
  have r0 := rep_start (N := N) h1 (by omega) h3
  refine hd.s _ _ _ Γ _ _ r0 (hb ss R e h4 (by omega)) ⟨fun σ' H' ρ' r' h' => h5 _ _ _ _ (hold_back (r'.data (v := .non) .non) _) h', fun σ' H' ρ' v z r' h' => h5 _ _ _ _ (hold_back r' _) h', fun _ _ _ _ z => z.elim, fun _ _ _ _ z => z.elim, h6⟩
end QL
set_option Elab.async false
set_option linter.all false
set_option maxRecDepth 100000
set_option maxHeartbeats 4000000
/-! a lambda without parameters handed to a def: what it raises has no context -/
namespace QL
open PySem PySem.Spec PyProof.Rows L2 LamX
open PySem.W (Frag)
abbrev LX (X : Cx) (A : Around) (outer : List PySem.Env) (s : Shared) (H : Hp) (E : XK) (scope : Scope) (f c' : Addr) : Cx :=
  { lamCx X A outer s H E scope f c' with
    xe := fun e s' => wpAny (model X.prog X.w) (A.deeper (lamEnv X scope s.heap.objs.size f c')) (leaving (lamEnv X scope s.heap.objs.size f c') e) (fun _ s'' => L2N.CX X.prog X.w outer H s E e s'') (fun e' s'' => L2N.CX X.prog X.w outer H s E e' s'') s' }
section
variable {X : Cx} {pins : List (Addr × Obj)} {σ : L2.St} {H HZ : Hp} {s s1 : Shared}
theorem inv_LX {Y : Cx} {xe : Value → Shared → Prop} (J : Inv Y pins σ H s) : Inv { Y with xe := xe } pins σ H s :=
  ⟨⟨J.ok.mod, J.ok.kind, J.ok.glob, J.ok.blt, J.ok.above, J.ok.inj, J.ok.has, J.ok.cab, J.ok.hd, J.ok.frames, J.ok.stk, J.ok.exf, J.ok.bs, J.ok.bsz, J.ok.noex, J.ok.exfs, J.ok.funs, J.ok.frf⟩, J.os, J.bare, J.base, J.loc, J.cell, J.free, J.freeC, J.pin, J.hok, J.len⟩
/-- a(), where the def got the lambda as a -/
theorem act_N {CXg : CXT} {Eg : XK} {Ng : List Str} {qg : Str} {sg : Scope} {g f c' : Addr} {cdg pm ctv : Value} {params : Arguments} {body : Expr} {scope : Scope} {k i : Nat} {a : Str} {pn : List (Addr × Obj)} {xe : Value → Shared → Prop} {W : WX} {E : XK} {tb : TE} {p1 p2 : Pos}
    (I : Inv X pins σ H s) (L : LamS X.env.scope scope) (hf : s.heap.get? f = some (PySem.W.kla_obj "<lambda>" (X.env.qual ++ "<lambda>") params body scope (cloFrom X.env.cells scope.names []) pm c' ctv)) (hfn : H f = none) (hfr : f ∉ frs X.stack)
    (hbind : bindArgs (PySem.W.kla_fn "<lambda>" (X.env.qual ++ "<lambda>") params body scope (cloFrom X.env.cells scope.names []) pm (.ref c') ctv) ⟨[], []⟩ = pure [])
    (tk : L2N.Takes ((cxOf CXg X.prog X.w X.K X.mg X.base Ng qg sg g cdg X.A X.stack s H Eg).tr pn xe) W) (hW : ∀ cls d σ' H', E cls d H' → W cls d σ' H') (hr : Room (k + 1) (X.A.deeper (envOfC qg sg s.heap.objs.size g cdg)))
    (hbody : ∀ (A : Around) (outer : List PySem.Env) (s : Shared) (H : Hp), Room k (A.deeper (lamEnv X scope s.heap.objs.size f c')) → PE (LX X A outer s H E scope f c') body tb)
    (hN : Ng[i]? = some a) (hv : Vis sg a) (hd : (a == ("__debug__" : Str)) = false := by decide) (hcd : (a == ("__classdict__" : Str)) = false := by decide) :
    PE ((cxOf CXg X.prog X.w X.K X.mg X.base Ng qg sg g cdg X.A X.stack s H Eg).tr pn xe) (.Call (.Name a p1) [] [] p2)
      (fun σZ HZ Q => σZ[i]? = some (some (.ref f)) ∧ HZ c' = some (CodeO c' (X.env.qual ++ "<lambda>")) ∧ tb σ HZ Q) := by
  refine ⟨fun pinsZ sZ σZ HZ Q IZ h => ?_⟩
  obtain ⟨hs, hc, ht⟩ := h
  refine wpAny_Call_Name_kw (thn ((pe_var (pos := p1) (i := i) hN hv hd hcd).run pinsZ sZ σZ HZ (fun v H1 => v = .ref f ∧ H1 = HZ) IZ ⟨.ref f, hs, rfl, rfl⟩) fun u s1 hh => ?_)
  obtain ⟨v, H1, I1, r1, ev, eH⟩ := hh
  subst ev
  rw [eH] at I1
  obtain rfl : u = Value.ref f := r1
  have of1 : s1.heap.get? f = some (PySem.W.kla_obj "<lambda>" (X.env.qual ++ "<lambda>") params body scope (cloFrom X.env.cells scope.names []) pm c' ctv) := I1.base.keep f _ hf hfn hfr List.not_mem_nil
  refine PySem.W.callWith_F0 ⟨_, _, _, _, of1⟩ ?_
  have un : Un (frs X.stack) [] H HZ s.heap s1.heap := I1.base
  obtain ⟨⟨oc, vs, t, hoc, hdc, hvc⟩, _, _⟩ := I1.hok c' _ hc
  have rc : codeAny (model X.prog X.w) (X.A.deeper (envOfC qg sg s.heap.objs.size g cdg)) (.call (.ref f) ⟨[], []⟩) (CR (L2N.CX X.prog X.w) (envOfC qg sg s.heap.objs.size g cdg :: X.stack) X.prog X.w HZ s1 Q E) s1 := by
    refine PySem.W.kla_callFunE hr.depth of1 rfl L.co L.gen rfl ⟨c', oc, vs, t, rfl, hoc, hdc, hvc⟩ ?_
    rw [hbind]
    refine wpAny_pure (wpAny_newFunctionEnv (fun y hy => (L.own y hy).2) (fun y hy => absurd hy List.not_mem_nil) (fun h₁ hns hsb => ⟨I1.nolimit.fresh _ hsb, ?_⟩) L.kind)
    show codeAny _ _ (.expr body (lamEnv X scope s1.heap.objs.size f c')) _ _
    have kp : ∀ b o, s1.heap.get? b = some o → h₁.get? b = some o := fun b o e => hsb.extBut b o (Nat.ne_of_lt (Heap.lt_size e)) (Heap.get?_push_of_some _ e)
    have J0 : Inv (lamCx X (X.A.deeper (envOfC qg sg s.heap.objs.size g cdg)) (envOfC qg sg s.heap.objs.size g cdg :: X.stack) s1 HZ E scope f c') [] σ HZ { s1 with heap := h₁, toks := s1.toks + ([] : List (Str × Value)).length } :=
      lam_start2 I L I1.env0 hr.hd un hns kp
    have J : Inv (LX X (X.A.deeper (envOfC qg sg s.heap.objs.size g cdg)) (envOfC qg sg s.heap.objs.size g cdg :: X.stack) s1 HZ E scope f c') [] σ HZ { s1 with heap := h₁, toks := s1.toks + ([] : List (Str × Value)).length } := inv_LX J0
    refine PySem.W.kla_codeExpr (wpAny_mono ((hbody _ _ s1 HZ (hr.deeper _)).run [] _ _ HZ Q J ht) (fun v s' hq => ?_) fun e s' hq => hq)
    obtain ⟨w', H', J', rv, q⟩ := hq
    exact ⟨w', H', J'.os, J'.bare, J'.base, J'.hok, rv, q⟩
  refine wpAny_call (codeAny_mono rc fun r s' hq => ?_)
  cases r with
  | error e => exact L2N.passes_call tk hW pinsZ σZ HZ s1 e s' I1 hq
  | ok fl =>
    cases fl with
    | ret u => exact I1.after hq
    | next => exact False.elim hq
    | brk => exact False.elim hq
    | cont => exact False.elim hq
end
/-- the def that calls what it got; TT: what it makes of the lambda's reading -/
def GivesN (P : Program) (w : World) (Kf : Frag) (mg : Str → Option Value) (base : Heap) (A : Around) (stack : List PySem.Env) (q : Str) (Ng : List Str) (x : Str) (sg : Scope) (g : Addr) (cdg : Value) (bg : List Stmt) (a : Str) (k : Nat) (TT : (XK → Hp → VK → Prop) → Hp → VK → Prop) : Prop :=
  ∀ (f c' : Addr) (s : Shared) (H : Hp) (Q : VK) (tl : XK → Hp → VK → Prop), Room k (A.deeper (envOfC x sg s.heap.objs.size g cdg)) →
    (∀ (W : WX) (pn : List (Addr × Obj)) (xe : Value → Shared → Prop) (E : XK) (p1 p2 : Pos), L2N.Takes ((cxOf (L2N.CX P w) P w Kf mg base Ng x sg g cdg A stack s H E0).tr pn xe) W → (∀ cls d σ' H', E cls d H' → W cls d σ' H') →
      PE ((cxOf (L2N.CX P w) P w Kf mg base Ng x sg g cdg A stack s H E0).tr pn xe) (.Call (.Name a p1) [] [] p2) (fun σZ HZ Q => σZ[0]? = some (some (.ref f)) ∧ HZ c' = some (CodeO c' (q ++ "<lambda>")) ∧ tl E HZ Q)) →
    H c' = some (CodeO c' (q ++ "<lambda>")) → TT tl H Q →
    ∃ t, PSs (cxOf (L2N.CX P w) P w Kf mg base Ng x sg g cdg A stack s H E0) bg t ∧ t { nx := fun _ H' => Q .non H', rt := Q } (L2.start Ng [.ref f]) H
section
variable {X : Cx}
theorem lamcall_N {T : List (Addr × Str)} {TT : (XK → Hp → VK → Prop) → Hp → VK → Prop} {x a : Str} {g c P : Addr} {k : Nat} {pg : Arguments} {bg : List Stmt} {sg : Scope} {dV kV doc pm cdv ct oc : Value} {an od : Option Addr} {osl : Array (Option Value)} {Ng : List Str}
    {params : Arguments} {body : Expr} {scope : Scope} {t : XK → TE} {p lpos pos : Pos} (hg : Gl X x) (hm : X.mg x = some (.ref g)) (hk : PySem.W.keepIn X.K (.ref g) = true)
    (lk : X.K.lookup g = some ⟨oc, od, .func (PySem.W.fnOf x x pg bg sg dV kV doc pm an cdv ct), osl⟩) (hcg : PySem.W.codeIn X.K cdv x = true) (hb : L2.Binds X.K (PySem.W.fnOf x x pg bg sg dV kV doc pm an cdv ct) [a] []) (Sg : FnScope Ng [a] sg) (hNg : Ng[0]? = some a) (hva : Vis sg a)
    (hG : GivesN X.prog X.w X.K X.mg X.base X.A X.stack X.env.qual Ng x sg g cdv bg a (k + 1) TT)
    (TB : TabB X.base X.mg c P) (hcode : X.env.code = .ref c) (hmT : (P, X.env.qual ++ "<lambda>") ∈ T) (hu : ∀ p ∈ T, p.1 = P → p.2 = X.env.qual ++ "<lambda>") (hr : Room (k + 2) X.A) (L : LamS X.env.scope scope) (hdef : defaultsOf params X.env = ([], []))
    (hbind : ∀ (q : Str) (cl : List (Str × Addr)) (pm cv ctv : Value), bindArgs (PySem.W.kla_fn "<lambda>" q params body scope cl pm cv ctv) ⟨[], []⟩ = pure [])
    (hbody : ∀ (A : Around) (outer : List PySem.Env) (s : Shared) (H : Hp) (E : XK) (f c' : Addr), Room k (A.deeper (lamEnv X scope s.heap.objs.size f c')) → PE (LX X A outer s H E scope f c') body (t E))
    (hdb : (x == ("__debug__" : Str)) = false := by decide) (hd : (a == ("__debug__" : Str)) = false := by decide) (hcd : (a == ("__classdict__" : Str)) = false := by decide) :
    PE X (.Call (.Name x p) [.Lambda params body scope lpos] [] pos) (tLam T TT t) := by
  refine ⟨fun pins s σ H Q I h => ?_⟩
  obtain ⟨hT, h⟩ := h
  refine wpAny_Call_Name_kw (ld_glob I hg hm ?_ hdb)
  refine PySem.W.callWith_K (h₀ := X.base) I.ok.mod.kin hk ?_ (by rfl) (by rfl)
  show wpAny _ _ (spliced ((false, eval (.Lambda params body scope lpos) X.env) :: backTo pos (starEach [] X.env))) _ _ s
  refine Calls.spliced_cons (lam_make2 I TB hcode hmT hu hT hdef (L.has I.ok) fun f c' pm' ctv H1 s' I1 eN T1 hf hfn hfr hco => ?_)
  refine Calls.spliced_nil ⟨I1.kIn, ?_⟩
  have rc : codeAny (model X.prog X.w) X.A (.call (.ref g) ⟨[.ref f], []⟩) (CR (L2N.CX X.prog X.w) X.stack X.prog X.w H1 s' Q E0) s' := by
    refine run_ofS (N := Ng) (ps := [a]) (us := [.ref f]) (vs := [.ref f]) lk hcg Sg hr I1.env0 (hb s' [.ref f] I1.kIn rfl) (.cons rfl .nil) rfl fun hr' => ?_
    exact hG f c' s' H1 Q (fun E H' Q' => t E σ H' Q') hr' (fun W pn xe E p1 p2 tk hW => act_N (i := 0) I1 L hf hfn hfr (hbind _ _ _ _ _) tk hW hr' (fun A outer s H hr2 => hbody A outer s H E f c' hr2) hNg hva hd hcd) hco (h H1 eN T1)
  refine wpAny_call (codeAny_mono rc fun r s2 hq => ?_)
  cases r with
  | error e => exact passN pins σ H1 s' e s2 I1 hq
  | ok fl =>
    cases fl with
    | ret u => exact I1.after hq
    | next => exact False.elim hq
    | brk => exact False.elim hq
    | cont => exact False.elim hq
end
end QL
set_option Elab.async false
set_option linter.all false
set_option maxRecDepth 100000
set_option maxHeartbeats 4000000
namespace QL
open PySem L2
open PySem.W (Frag)
/-! ### a lambda handed to a def that calls it and tells what comes of it -/
section
variable {W : Wd} {H H' : Hp} {O : List Addr}
mutual
theorem At.extN (e : LamX.ExtN H H') : ∀ {v : V} {d : D}, At W H O v d → At W H' O v d
  | _, _, .non => .non
  | _, _, .bl b => .bl b
  | _, _, .int i => .int i
  | _, _, .str z h => .str z h
  | _, _, .tup h t => .tup (h.imp (fun h => ⟨e _ _ h.1 (fun _ z => by cases z), h.2⟩) id) (AtL.extN e t)
  | _, _, .lst h n t => .lst (e _ _ h (fun _ z => by cases z)) n (AtL.extN e t)
  | _, _, .dk h l n t => .dk (e _ _ h (fun _ z => by cases z)) l n (AtL.extN e t)
  | _, _, .dt h l n t => .dt (e _ _ h (fun _ z => by cases z)) l n (AtL.extN e t)
  | _, _, .ins h l n t => .ins (e _ _ h (fun _ z => by cases z)) l n (AtL.extN e t)
  | _, _, .rf a => .rf a
  | _, _, .scr h => .scr (by
      rcases h with ⟨h, n⟩ | ⟨o, h, n⟩ | h
      · exact .inl ⟨e _ _ h (fun _ z => by cases z), n⟩
      · exact .inr (.inl ⟨o, e _ _ h (fun _ z => by cases z), n⟩)
      · exact .inr (.inr h))
  | _, _, .exc h l t => .exc (fun b hb => ⟨e _ _ (h b hb).1 (fun _ z => by cases z), (h b hb).2⟩) l (AtL.extN e t)
theorem AtL.extN (e : LamX.ExtN H H') : ∀ {vs : List V} {ds : List D}, AtL W H O vs ds → AtL W H' O vs ds
  | _, _, .nil => .nil
  | _, _, .cons a t => .cons (At.extN e a) (AtL.extN e t)
end
theorem MAt.extN (e : LamX.ExtN H H') {a : Addr} {m : M} (h : MAt W H O a m) : MAt W H' O a m := by
  cases m with
  | lst xs => obtain ⟨vs, h1, h2⟩ := h; exact ⟨vs, e _ _ h1 (fun _ z => by cases z), h2.extN e⟩
  | dk ks xs => obtain ⟨vs, h1, h0, h2⟩ := h; exact ⟨vs, e _ _ h1 (fun _ z => by cases z), h0, h2.extN e⟩
  | dt ks xs => obtain ⟨vs, h1, h0, h2⟩ := h; exact ⟨vs, e _ _ h1 (fun _ z => by cases z), h0, h2.extN e⟩
  | obj c ns xs => obtain ⟨dx, vs, h1, h0, h2⟩ := h; exact ⟨dx, vs, e _ _ h1 (fun _ z => by cases z), h0, h2.extN e⟩
  | src n => obtain ⟨x, y, z, h1, h2⟩ := h; exact ⟨x, y, z, e _ _ h1 (fun _ z => by cases z), h2⟩
theorem Hold.extN {I : List It} (h : Hold W H I) (e : LamX.ExtN H H') (t : LamX.Tabs W.T H') : Hold W H' I := by
  refine ⟨h.nd, fun p hp => ?_, t, fun b hb o z => ?_⟩
  · have a := h.at_ p hp
    obtain ⟨v, s⟩ := p
    cases s with
    | d x => exact At.extN e a
    | m a' x => exact ⟨a.1, a.2.extN e⟩
  · obtain ⟨o', e1, e2⟩ := h.own_there hb
    have e3 := e b o' e1 (fun ps q => by rw [q] at e2; exact e2)
    rw [z] at e3
    cases e3
    exact h.nt b hb _ e1
theorem Hold.dup {I : List It} (h : Hold W H I) : ∀ {J : List It}, (∀ p ∈ J, p ∈ I ∧ ∃ x, p.2 = .d x) → Hold W H (J ++ I)
  | [], _ => h
  | (v, s) :: J, hJ => by
    have ih := h.dup (J := J) fun p hp => hJ p (List.mem_cons_of_mem _ hp)
    obtain ⟨h1, x, rfl⟩ := hJ (v, s) List.mem_cons_self
    exact ih.data (ih.at_ (v, .d x) (List.mem_append_right _ h1))
end
def dat1 : Option S → Option S
  | some (.d x) => some (.d x)
  | _ => none
def datO (ρ : Env) : Env := ρ.map dat1
theorem slots_datO : ∀ (σ : L2.St) (ρ : Env), ∀ p ∈ slots σ (datO ρ), p ∈ slots σ ρ ∧ ∃ x, p.2 = .d x
  | [], ρ, p, h => by cases ρ <;> cases h
  | x :: σ, [], p, h => by cases x <;> cases h
  | x :: σ, y :: ρ, p, h => by
    have hr : ∀ {q}, q ∈ slots σ ρ → q ∈ slots (x :: σ) (y :: ρ) := fun {q} hq => by
      cases x with
      | none => exact hq
      | some v =>
        cases y with
        | none => exact hq
        | some s => exact List.mem_cons_of_mem _ hq
    have h : p ∈ slots (x :: σ) (dat1 y :: datO ρ) := h
    cases x with
    | none =>
      have := slots_datO σ ρ p h
      exact ⟨hr this.1, this.2⟩
    | some v =>
      cases y with
      | none =>
        have := slots_datO σ ρ p h
        exact ⟨hr this.1, this.2⟩
      | some s =>
        cases s with
        | m a y =>
          have := slots_datO σ ρ p h
          exact ⟨hr this.1, this.2⟩
        | d z =>
          have h : p ∈ (v, S.d z) :: slots σ (datO ρ) := h
          rcases List.mem_cons.mp h with e | h
          · subst e
            exact ⟨List.mem_cons_self, z, rfl⟩
          · have := slots_datO σ ρ p h
            exact ⟨hr this.1, this.2⟩
theorem Rep.datO {W : Wd} {σ : L2.St} {H : Hp} {ρ : Env} {Γ : List It} (r : Rep W σ H ρ Γ) : Rep W σ H (datO ρ) (slots σ ρ ++ Γ) := by
  refine ⟨by rw [r.len]; unfold QL.datO; rw [List.length_map], fun i s h => ?_, r.hold.dup fun p hp => ?_⟩
  · unfold QL.datO at h
    rw [List.getElem?_map] at h
    cases e : ρ[i]? with
    | none => rw [e] at h; cases h
    | some o =>
      rw [e] at h
      cases o with
      | none => cases h
      | some t => exact r.hs i t e
  · have z := slots_datO σ ρ p hp
    exact ⟨List.mem_append_left _ z.1, z.2⟩
theorem Rep.back {W : Wd} {σ : L2.St} {H H' : Hp} {ρ : Env} {Γ : List It} {p : It} (r : Rep W σ H ρ Γ) (h : Hold W H' (p :: (slots σ ρ ++ Γ))) : Rep W σ H' ρ (p :: Γ) := ⟨r.len, r.hs, h.perm (perm_mid _ _ _).symm⟩
/-- what the def makes of what the lambda gives or raises -/
def TTc (G : Gw) (gc : XD → (D → Prop) → Prop) : (XK → Hp → VK → Prop) → Hp → VK → Prop := fun tl H Q => ∃ (Γ : List It) (Rv : D → Prop) (Rx : XD → Prop),
  (∀ Q' : VK, (∀ v x H', Hold G.W H' ((v, .d x) :: Γ) → Rv x → Q' v H') → tl (fun cls d H' => ∃ x, XH G.W G.XF H' Γ cls d x ∧ Rx x) H Q') ∧
  (∀ x, Rv x → ∀ v H', Hold G.W H' ((v, .d (.lst [.str "given", x])) :: Γ) → Q v H') ∧ ∀ x, Rx x → gc x fun y => ∀ v H', Hold G.W H' ((v, .d y) :: Γ) → Q v H'
def rCap (gc : XD → (D → Prop) → Prop) (r : RE) : RE := fun ρ R _ => r (datO ρ) (fun s _ => optP s.dat fun x => R (.d (.lst [.str "given", x])) ρ) (fun x => gc x fun y => R (.d y) ρ)
/-- a reading as a transformer -/
def tPure (G : Gw) (r : RE) (E : XK) : TE := fun σ H Q => ∃ (ρ : Env) (Γ : List It) (R : S → Env → Prop) (e : XD → Prop), Rep G.W σ H ρ Γ ∧ r ρ R e ∧ (∀ v s ρ' H', Rep G.W σ H' ρ' ((v, s) :: Γ) → R s ρ' → Q v H') ∧ Out G E Γ e
theorem snd_pure {G : Gw} {r : RE} {E : XK} : SndE G E (tPure G r E) r := fun σ H ρ Γ Q R e re hr q o => ⟨ρ, Γ, R, e, re, hr, q, o⟩
theorem DE.pure {G : Gw} {E : XK} {X : Cx} {e : Expr} {t : TE} {r : RE} (h : DE G E X e t r) : PE X e (tPure G r E) := ⟨fun pins s σ H Q I ⟨ρ, Γ, R, e, re, hr, q, o⟩ => h.p.run pins s σ H Q I (h.s σ H ρ Γ Q R e re hr q o)⟩
/-- what a def's text says where it makes lambdas -/
structure LamAt (G : Gw) (base : Heap) (mg : Str → Option Value) (qual : Str) (cd : Value) : Prop where
  ex : ∃ c P, LamX.TabB base mg c P ∧ cd = .ref c ∧ (P, qual ++ "<lambda>") ∈ G.W.T ∧ ∀ p ∈ G.W.T, p.1 = P → p.2 = qual ++ "<lambda>"
section
variable {G : Gw} {E : XK} {X : Cx} {k : Nat} {gq : Bool} {pos p lpos : Pos}
theorem snd_lam {gc : XD → (D → Prop) → Prop} {t : XK → TE} {r : RE} (gm : ∀ x (P Q : D → Prop), (∀ y, P y → Q y) → gc x P → gc x Q) (h : ∀ E', SndE G E' (t E') r) : SndE G E (LamX.tLam G.W.T (TTc G gc) t) (rCap gc r) := fun σ H ρ Γ Q R e re hr q o => by
  refine ⟨re.hold.tb, fun H1 eN T1 => ?_⟩
  have r1 : Rep G.W σ H1 ρ Γ := ⟨re.len, re.hs, re.hold.extN eN T1⟩
  refine ⟨slots σ ρ ++ Γ, fun x => R (.d (.lst [.str "given", x])) ρ, fun x => gc x fun y => R (.d y) ρ, fun Q' hQ' => ?_, fun x hx v H' hh => q _ _ _ _ (r1.back hh) hx, fun x hx => gm x _ _ (fun y hy v H' hh => q _ _ _ _ (r1.back hh) hy) hx⟩
  refine h _ σ H1 (datO ρ) (slots σ ρ ++ Γ) _ _ _ r1.datO hr (fun v s ρ' H' r' h' => ?_) (fun cls dx H2 x hx he => ⟨x, hx, he⟩)
  obtain ⟨x, hx, h'⟩ := opt_get h'
  exact hQ' v x H' (r'.dat hx).low h'
theorem de_lam {x a : Str} {g : Addr} {pg : Arguments} {bg : List Stmt} {sg : Scope} {dV kV doc pm cdv ct oc : Value} {an od : Option Addr} {osl : Array (Option Value)} {Ng : List Str} {gc : XD → (D → Prop) → Prop}
    {params : Arguments} {body : Expr} {scope : Scope} {r : RE} (c : Cn G E X (k + 2) gq) (hm : X.mg x = some (.ref g)) (hk : PySem.W.keepIn X.K (.ref g) = true)
    (lk : X.K.lookup g = some ⟨oc, od, .func (PySem.W.fnOf x x pg bg sg dV kV doc pm an cdv ct), osl⟩) (hcg : PySem.W.codeIn X.K cdv x = true) (hb : L2.Binds X.K (PySem.W.fnOf x x pg bg sg dV kV doc pm an cdv ct) [a] []) (Sg : FnScope Ng [a] sg) (hNg : Ng[0]? = some a) (hva : Vis sg a)
    (hG : GivesN X.prog X.w X.K X.mg X.base X.A X.stack X.env.qual Ng x sg g cdv bg a (k + 1) (TTc G gc)) (gm : ∀ x (P Q : D → Prop), (∀ y, P y → Q y) → gc x P → gc x Q) (LA : LamAt G X.base X.mg X.env.qual X.env.code)
    (hbody : ∀ (A : Around) (outer : List PySem.Env) (s : Shared) (H : Hp) (E' : XK) (f c' : Addr), Cn G E' (LX X A outer s H E' scope f c') k false → ∃ t, DE G E' (LX X A outer s H E' scope f c') body t r)
    (hg : Gl X x := by rfl) (L : LamX.LamS X.env.scope scope := by exact LamX.lamS_by (by decide +kernel)) (hdef : defaultsOf params X.env = ([], []) := by rfl)
    (hbind : ∀ (q : Str) (cl : List (Str × Addr)) (pm cv ctv : Value), bindArgs (PySem.W.kla_fn "<lambda>" q params body scope cl pm cv ctv) ⟨[], []⟩ = pure [] := by intros; rfl)
    (hdb : (x == ("__debug__" : Str)) = false := by decide) (hd : (a == ("__debug__" : Str)) = false := by decide) (hcd : (a == ("__classdict__" : Str)) = false := by decide) :
    DE G E X (.Call (.Name x p) [.Lambda params body scope lpos] [] pos) (LamX.tLam G.W.T (TTc G gc) (tPure G r)) (rCap gc r) := by
  obtain ⟨cc, P, TB, hcode, hmT, hu⟩ := LA.ex
  refine ⟨lamcall_N (k := k) hg hm hk lk hcg hb Sg hNg hva hG TB hcode hmT hu c.room L hdef hbind (fun A outer s H E' f c' hr => ?_) hdb hd hcd, snd_lam gm fun _ => snd_pure⟩
  have tk : L2N.Takes (LX X A outer s H E' scope f c') (fun cls d _ H => E' cls d H) := L2N.takes_of rfl rfl rfl rfl
  obtain ⟨t, hd⟩ := hbody A outer s H E' f c' ⟨rfl, c.K, hr, (fun z => by cases z), tk, L2N.passes_call tk (fun _ _ _ _ z => z), passes_of rfl, c.nd⟩
  exact hd.pure
end
end QL
set_option Elab.async false
set_option linter.all false
set_option maxRecDepth 100000
set_option maxHeartbeats 4000000
/-! list(range(n)) while an exception is handled -/
namespace QL
open PySem PySem.Spec PyProof.Rows L2
open PySem.W (Frag)
section
variable {prog : Program} {w : World} {A : Around} {E : Value → Shared → Prop} {s : Shared} {x1 : Addr} {o1 : Obj} {vs1 : Array Value}
theorem walks_hot (hh : A.handled = some (.ref x1)) (d1 : o1.data = .fields vs1) (c1 : vs1[2]? = some .none) (I : Addr) (hne : x1 ≠ I) (a c : Int) (n : Nat) :
    PySem.Walks prog w A I [I, x1] [I] n (fun i v => ∃ t, v = .int (a + i * c) t) (fun i h => IsRangeIter h I (a + (i : Nat) * c) ((n : Int) - (i : Nat)) c ∧ h.get? x1 = some o1) where
  sub := fun b hb => by
    rw [List.mem_singleton.mp hb]
    exact List.mem_cons_self
  frame := fun _ _ _ st hk => ⟨hk I List.mem_cons_self _ st.1, hk x1 (List.mem_cons_of_mem _ List.mem_cons_self) _ st.2⟩
  item := fun i s Q E hi st hQ => by
    refine wpAny_pyNext_range_item st.1 (by omega) fun h' hit' hs' => ?_
    have ot : ∀ b o, b ≠ I → s.heap.get? b = some o → h'.get? b = some o := fun b o hb e => hs'.extBut b o hb e
    refine hQ _ h' _ ⟨_, rfl⟩ ⟨?_, ot x1 o1 hne st.2⟩ fun b o hb e => ot b o (fun z => hb (by rw [z]; exact List.mem_singleton.mpr rfl)) e
    have e1 : a + ((i + 1 : Nat) : Int) * c = a + (i : Int) * c + c := by push_cast; rw [Int.add_mul, Int.one_mul, Int.add_assoc]
    have e2 : (n : Int) - ((i + 1 : Nat) : Int) = (n : Int) - (i : Int) - 1 := by push_cast; omega
    rw [e1, e2]
    exact hit'
  done := fun s Q E st hQ => HotX.pyNext_range_end_hot (x1 := x1) ⟨hh, o1, vs1, st.2, d1, c1⟩ st.1 (by omega) fun h' he' => hQ h' s.toks fun b o _ e => he' b o e
  self := fun _ _ _ _ st hQ => wpAny_pyIter_rangeiter st.1 hQ
theorem list_range_hot {Q : Value → Shared → Prop} {r : Addr} {a b c : Int} {t u v : Tok} {n : Nat} (hh : A.handled = some (.ref x1)) (h1 : s.heap.get? x1 = some o1) (d1 : o1.data = .fields vs1) (c1 : vs1[2]? = some .none) (hr : IsRange s.heap r a b c t u v) (hsmall : Builtin.Range.small a b c = true)
    (hn : Builtin.Range.rangeSize a b c = n) (hlen : n ≤ 2 ^ 24)
    (hQ : ∀ h' tk acc' c', (∀ b o, s.heap.get? b = some o → h'.get? b = some o) →
      h'.get? s.heap.objs.size = some { cls := .type "list", dict := none, data := .seq acc' c', slots := #[] } → ItemsOf (fun i v => ∃ t, v = .int (a + i * c) t) acc' n → Q (.ref s.heap.objs.size) { s with heap := h', toks := tk }) :
    wpAny (model prog w) A (call (.type "list") [.ref r]) Q E s := by
  refine callType_codes (Q₁ := fun obj s₁ => obj = .ref s.heap.objs.size ∧ s₁ = { s with heap := s.heap.push { cls := .type "list", data := .seq #[] } }) F.called_list (F.typeCall_list_1 _) F.entry_list_init
    (code_list_new _ ⟨rfl, rfl⟩) fun obj s₁ h₁ => ?_
  obtain ⟨rfl, rfl⟩ := h₁
  generalize hS0 : s.heap.objs.size = S at hQ ⊢
  have hS : (s.heap.push { cls := .type "list", data := .seq #[] }).get? S = some { cls := .type "list", data := .seq #[] } := by
    rw [← hS0]
    exact Heap.get?_push_size _ rfl
  have old : ∀ b o, s.heap.get? b = some o → b ≠ S := fun b o e z => by
    rw [z] at e
    exact Nat.lt_irrefl _ (hS0 ▸ Heap.lt_size e)
  refine ⟨⟨_, hS, rfl⟩, F.args_list_init_2 _ _, ?_⟩
  show wpAny _ _ (do let old ← Builtin.List.listItems (.ref S); Builtin.List.listUpdate (.ref S) (fun _ => #[]); letGo old.toList.reverse; Builtin.List.listExtendWith (.ref S) (.ref r) .none) _ _ _
  refine wpAny_bind ?_
  unfold Builtin.List.listItems
  refine wpAny_bind (wpAny_seqItems hS rfl (wpAny_pure ?_))
  show wpAny _ _ (updateSeq S (fun _ => #[]) >>= fun _ => letGo (#[] : Array Value).toList.reverse >>= fun _ => Builtin.List.listExtendWith (.ref S) (.ref r) .none) _ _ _
  refine wpAny_bind (wpAny_updateSeq hS rfl ?_)
  have hS₂ := Heap.get?_update_self (Obj.mapSeq (fun _ => (#[] : Array Value))) hS rfl
  have kp0 : ∀ b o, s.heap.get? b = some o → ((s.heap.push { cls := .type "list", data := .seq #[] }).update S (Obj.mapSeq (fun _ => (#[] : Array Value)))).get? b = some o :=
    fun b o e => (Heap.get?_update_other _ _ (Ne.symm (old b o e))).trans (Heap.get?_push_of_some _ e)
  refine wpAny_bind (wpAny_letGo ?_)
  generalize hg : (s.heap.push { cls := .type "list", data := .seq #[] }).update S (Obj.mapSeq (fun _ => (#[] : Array Value))) = g at hS₂ kp0 ⊢
  have hr2 : IsRange g r a b c t u v := kp0 r _ hr
  have hx2 := kp0 x1 o1 h1
  have hSr : S ≠ r := Ne.symm (old r _ hr)
  have hSlt : S < g.objs.size := Heap.lt_size hS₂
  have hSI : S ≠ g.objs.size := Nat.ne_of_lt hSlt
  have hxI : x1 ≠ g.objs.size := Nat.ne_of_lt (Heap.lt_size hx2)
  have hSf : S ∉ [g.objs.size, x1] := fun hm => by
    rcases List.mem_cons.mp hm with e | e
    · exact hSI e
    · exact old x1 o1 h1 (List.mem_singleton.mp e).symm
  have W := (walks_hot (prog := prog) (w := w) (A := A.in1.in1) hh d1 c1 g.objs.size hxI a c n).toS
  have key : ∀ (h : Heap) (c₁ tk : Nat), IsRangeIter h g.objs.size (a + ((0 : Nat) : Int) * c) ((n : Int) - ((0 : Nat) : Int)) c ∧ h.get? x1 = some o1 → (∀ b o, b ≠ S → g.get? b = some o → h.get? b = some o) →
      h.get? S = some { cls := .type "list", data := .seq #[] c₁ } → codeAny (model prog w) A.in1 (.builtin "list.extend.loop" ⟨[.ref S, .ref g.objs.size, .none], []⟩) (wants (fun r s₂ => r = .none ∧ Q (.ref S) s₂) E) { s with heap := h, toks := tk } := by
    intro h c₁ tk hit hk hS₁
    refine codeAny_extend_loopS W (by rw [sizeLine_eq]; omega) S hSf .none n 0 _ #[] c₁ rfl (Nat.zero_le _) hit hS₁ (ItemsOf.nil _) fun s' acc' c' hm hS' hacc => ?_
    rw [Moved.eq_with hm]
    refine ⟨rfl, hQ s'.heap s'.toks acc' c' (fun b o e => hm.heap b o (fun hmem => ?_) (hk b o (old b o e) (kp0 b o e))) hS' hacc⟩
    rcases List.mem_cons.mp hmem with e' | hmem
    · exact old b o e e'
    · exact absurd (Heap.lt_size (kp0 b o e)) (by rw [List.mem_singleton.mp hmem]; exact Nat.lt_irrefl _)
  unfold Builtin.List.listExtendWith
  refine wpAny_bind (wpAny_typeOf (T := "range") ⟨_, hr2, rfl⟩ ?_)
  have e1 : Builtin.List.listSameRef (.ref S) (.ref r) = false := by simp [Builtin.List.listSameRef, hSr]
  have e2 : (Value.type "range" == Value.type "list") = false := by decide
  have e3 : (Value.type "range" == Value.type "tuple") = false := by decide
  simp only [e1, e2, e3, Bool.or_false, Bool.false_eq_true, if_false]
  refine wpAny_bind (wpAny_pyIter_range hr2 hsmall ?_)
  refine wpAny_bind (wpAny_holding (wpAny_hint_range (n := n) (Heap.get?_push_of_some _ hr2) hn hlen ?_))
  have hit₁ : IsRangeIter (g.push { cls := .type "range_iterator", data := .fields #[rawInt a, rawInt (Builtin.Range.rangeSize a b c), rawInt c] }) g.objs.size (a + ((0 : Nat) : Int) * c) ((n : Int) - ((0 : Nat) : Int)) c := by
    show IsRangeIter _ _ _ _ _
    rw [hn]
    simpa using Heap.get?_push_size _ rfl
  have hx3 := Heap.get?_push_of_some { cls := .type "range_iterator", data := .fields #[rawInt a, rawInt (Builtin.Range.rangeSize a b c), rawInt c] } hx2
  have hS₁ := Heap.get?_push_of_some { cls := .type "range_iterator", data := .fields #[rawInt a, rawInt (Builtin.Range.rangeSize a b c), rawInt c] } hS₂
  refine wpAny_ite_split (fun _ => ?_) (fun _ => wpAny_pure ⟨plainId_quiet F.plain_extend_loop _, key _ _ _ ⟨hit₁, hx3⟩ (fun b o _ e => Heap.get?_push_of_some _ e) hS₁⟩)
  refine wpAny_bind (wpAny_rule ?_)
  refine wpAny_bind ?_
  show wpAny _ _ (updateSeq S (·.push .none) >>= fun _ => updateSeq S (·.pop)) _ _ _
  refine wpAny_bind (wpAny_updateSeq hS₁ rfl ?_)
  have hS₃ := Heap.get?_update_self (Obj.mapSeq (·.push Value.none)) hS₁ rfl
  refine wpAny_updateSeq (hz := by seq_fits) hS₃ rfl ?_
  have hS₄ := Heap.get?_update_self (Obj.mapSeq (·.pop)) hS₃ rfl
  have sx : S ≠ x1 := Ne.symm (old x1 o1 h1)
  refine wpAny_pure ⟨plainId_quiet F.plain_extend_loop _, key _ _ _ ⟨?_, ?_⟩ (fun b o hb e => ?_) hS₄⟩
  · exact (Heap.get?_update_other _ _ hSI).trans ((Heap.get?_update_other _ _ hSI).trans hit₁)
  · exact (Heap.get?_update_other _ _ sx).trans ((Heap.get?_update_other _ _ sx).trans hx3)
  · exact (Heap.get?_update_other _ _ (Ne.symm hb)).trans ((Heap.get?_update_other _ _ (Ne.symm hb)).trans (Heap.get?_push_of_some _ e))
end
end QL
set_option Elab.async false
set_option linter.all false
set_option maxRecDepth 100000
set_option maxHeartbeats 4000000
namespace QL
open PySem PySem.Spec PyProof.Rows L2
open PySem.W (Frag)
theorem pe_listRgH {X : Cx} {a : Addr} {cls : Value} {d : Option Addr} {e : Expr} {te : L2.St → Hp → (Int → Int → Hp → Prop) → Prop} {p pos : Pos} (P : PinX X a cls d) (hh : X.A.handled = some (.ref a)) (hg : Gl X "list") (hm : X.mg "list" = none) (he : PRg X e te) (na : starEach [e] X.env = (false, eval e X.env) :: starEach [] X.env := by rfl) :
    PE X (.Call (.Name "list" p) [e] [] pos) (tLstRg te) := by
  refine ⟨fun pins s σ H Q I h => ?_⟩
  refine Call_ (ld_blt I hg hm boot_list (PyProof.Rows.callWith_type1 (args_cons (thn (he pins s σ H _ I h) fun x s1 hx => args_nil ?_) na) na))
  obtain ⟨r, a', b, t, u, v, H1, ex, hr, I1, ok, q⟩ := hx
  subst ex
  obtain ⟨b1, b2, b3, b4, b5⟩ := ok
  obtain ⟨oe, hp, ⟨z1, z2, z3⟩, vs, hv⟩ := P.ex
  obtain ⟨hget, _⟩ := I1.pin (a, oe) (List.mem_append.mpr (.inl hp))
  refine list_range_hot (n := (b - a').toNat) hh hget hv (z3 vs hv) hr (small_one b1 b2 b3 b4) (rangeSize_nat a' b) b5 fun h' tk acc c' hk e' hi => ?_
  refine ⟨.ref s1.heap.objs.size, upd H1 s1.heap.objs.size (.lst (rgV a' b)), I1.laid hk (Nat.le_refl _) (show ObjOk X.prog X.w _ _ _ (.lst (rgV a' b)) from ⟨?_, acc.toList, c', vals_rg hi, ?_⟩), rfl, q _ (I1.hok.fresh (Nat.le_refl _))⟩
  · rw [rgV_length, sizeLine_eq]; omega
  · rw [Array.toArray_toList]; exact e'
def rLr (ra : RE) : RE := fun ρ R e => ra ρ (fun s ρ' => match s with
  | .d (.int n) => (0 ≤ n ∧ n ≤ 16777216) ∧ ∀ q, R (.m q (.lst (intsD n.toNat))) ρ'
  | _ => False) e
theorem ints_at {W : Wd} {H : Hp} {O : List Addr} (n : Nat) : AtL W H O (rgV 0 (n : Nat)) (intsD n) := by
  unfold rgV intsD
  have e : ((n : Int) - 0).toNat = n := by omega
  rw [e]
  generalize List.range n = l
  induction l with
  | nil => exact .nil
  | cons x l ih =>
    rw [List.map_cons, List.map_cons]
    refine .cons ?_ ih
    rw [Int.zero_add]
    exact .int _
theorem de_lrH {G : Gw} {E : XK} {X : Cx} {a : Addr} {cls : Value} {d : Option Addr} {e0 : Expr} {ta : TE} {ra : RE} {p p2 pos pos2 : Pos} (c : Cq G X) (P : PinX X a cls d) (hh : X.A.handled = some (.ref a)) (T : Bn X.mg) (h : DE G E X e0 ta ra) (hg : Gl X "list" := by rfl) (hg2 : Gl X "range" := by rfl)
    (na : starEach [e0] X.env = (false, eval e0 X.env) :: starEach [] X.env := by rfl) (nb : starEach [.Call (.Name "range" p2) [e0] [] pos2] X.env = (false, eval (.Call (.Name "range" p2) [e0] [] pos2) X.env) :: starEach [] X.env := by rfl) :
    DE G E X (.Call (.Name "list" p) [.Call (.Name "range" p2) [e0] [] pos2] [] pos) (tLstRg (tRg1 ta)) (rLr ra) := by
  refine ⟨pe_listRgH P hh hg T.lst (prg_1 hg2 T.ran h.p na) nb, fun σ H ρ Γ Q R e re hr q o => h.s σ H ρ Γ _ _ e re hr (fun v s ρ' H' r' h' => ?_) o⟩
  try dsimp only at h'
  split at h'
  · rename_i n
    obtain ⟨⟨h1, h2⟩, h'⟩ := h'
    have z : At G.W H' _ v (.int n) := r'.head
    cases z
    refine ⟨n, rfl, RgOk.of_le (by omega) h2 (by omega) h1, fun y ny => ?_⟩
    have en : n = ((n.toNat : Nat) : Int) := by omega
    have := (ret_of (R := fun z => R z ρ') r'.drop fun v z H2 r2 h2 => q v z ρ' H2 r2 h2).newL (ints_at n.toNat) (h' y) ny
    rw [← en] at this
    exact this
  · exact False.elim h'
/-- statements by their reading -/
def tPureS (G : Gw) (r : RS) (E : XK) : TS := fun D σ H => ∃ (ρ : Env) (Γ : List It) (d : Rd), Rep G.W σ H ρ Γ ∧ r d ρ ∧ EndsOk G E Γ D d
theorem DSs.pure {G : Gw} {E : XK} {X : Cx} {st : List Stmt} {t : TS} {r : RS} (h : DSs G E X st t r) : PSs X st (tPureS G r E) := ⟨fun pins s σ H D I ⟨ρ, Γ, d, re, hr, o⟩ => h.p.run pins s σ H D I (h.s σ H ρ Γ D d re hr o)⟩
theorem Cq.suite {G : Gw} {X : Cx} {a : Addr} {pn : List (Addr × Obj)} (c : Cq G X) : Cq G (X.suite a pn) := ⟨c.K, c.un⟩
theorem rep_none {W : Wd} {σ : L2.St} {H : Hp} {Γ : List It} {n : Nat} (hl : σ.length = n) (h : Hold W H Γ) : Rep W σ H (List.replicate n none) Γ := by
  refine ⟨by rw [hl, List.length_replicate], fun i s e => ?_, by rw [slots_none]; exact h⟩
  rw [List.getElem?_replicate] at e
  split at e <;> simp at e
/-- the exception, in its slot -/
theorem rep_exc {G : Gw} {σ : L2.St} {H : Hp} {Γ : List It} {n i : Nat} {a : Addr} {cls : Value} {d : Option Addr} {x : XD} (hl : σ.length = n) (hi : i < n) (h : XH G.W G.XF H Γ cls d x) : ∃ fs xs, Rep G.W (σ.set i (some (.ref a))) H ((List.replicate n none).set i (some (.d (.exc a x.1 d fs xs)))) Γ ∧
    (∀ f, G.XF x.1 = some f → fs = [f] ∧ xs = [x.2] ∧ d.isSome = true) := by
  have r0 := rep_none hl h.hold
  cases e : G.XF x.1 with
  | none =>
    refine ⟨[], [], Rep.set (r0.data (v := .ref a) (.exc (vs := []) (fun b hb => by rw [h.non e] at hb; cases hb) rfl .nil)) (by rw [List.length_replicate]; exact hi), fun f hf => by cases hf⟩
  | some f =>
    obtain ⟨dd, v, h1, h2, h3, h4⟩ := h.fld f e
    have eo : owns (slots σ (List.replicate n none) ++ Γ) = owns Γ := by rw [slots_none]; rfl
    refine ⟨[f], [x.2], Rep.set (r0.data (v := .ref a) (.exc (vs := [v]) (fun b hb => ?_) rfl (.cons (by rw [eo]; exact h4) .nil))) (by rw [List.length_replicate]; exact hi), fun f' hf => by cases hf; exact ⟨rfl, rfl, by rw [h1]; rfl⟩⟩
    rw [h1] at hb
    cases hb
    exact ⟨h2, by rw [eo]; exact h3⟩
end QL
set_option Elab.async false
set_option linter.all false
set_option maxRecDepth 100000
set_option maxHeartbeats 4000000
namespace QL
open PySem L2
open PySem.W (Frag)
/-! ### {k: v} -/
def rDisp1 (rk rv : RE) : RE := fun ρ R e => rk ρ (fun s ρ1 => rv ρ1 (fun t ρ2 => optP s.dat fun kd => optP (keyK kd) fun key => optP t.dat fun y => ∀ p, R (.m p (.dk [key] [y])) ρ2) e) e
section
variable {G : Gw} {E : XK} {X : Cx} {k n : Nat} {gq : Bool} {a b : Expr} {es : List Expr} {ta tb : TE} {ra rb : RE} {pos p : Pos} {f : Addr} {fd : FuncData} {ps : List Str} {sp : PSp} {x : Str}
theorem de_disp1 (hk : DE G E X a ta ra) (hv : DE G E X b tb rb) : DE G E X (.Dict [some a] [b] pos) (tDisp [(ta, tb)]) (rDisp1 ra rb) := ⟨pe_disp (pps_cons hk.p hv.p pps_nil) rfl rfl (fun z => by cases z) (Nat.le_of_ble_eq_true rfl), fun σ H ρ Γ Q R e re hr q o p np => by
  have r0 : Rep G.W σ (upd H p (.dK [])) ρ ((.ref p, .m p (.dk [] [])) :: Γ) := re.own (m := .dk [] []) np (same_new np) ⟨[], upd_same, rfl, .nil⟩ fun o e => by rw [upd_same] at e; cases e; exact dK_nc
  refine hk.s σ _ ρ _ _ _ e r0 hr (fun x s ρ1 H1 r1 h1 => hv.s σ H1 ρ1 _ _ _ e r1 h1 (fun y t ρ2 H2 r2 h2 => ?_) o.tail.tail) o.tail
  obtain ⟨kd, e1, h2⟩ := opt_get h2
  obtain ⟨key, e2, h2⟩ := opt_get h2
  obtain ⟨yd, e3, h2⟩ := opt_get h2
  have r3 := ((r2.dat e3).swap).dat e1
  have ek := keyK_at (show At G.W H2 _ x kd from r3.head) e2
  subst ek
  have r4 := r3.drop.swap
  obtain ⟨_, vs, g1, g0, g2⟩ := r4.head
  have ay : At G.W H2 (owns ((V.ref p, S.m p (.dk [] [])) :: (slots σ ρ2 ++ (y, .d yd) :: Γ))) y yd := by
    have z := r4.hold.at_ (y, .d yd) (List.mem_append_right _ (List.mem_cons_of_mem _ List.mem_cons_self))
    exact At.step (step_perm fun b hb => (owns_perm (perm_mid _ _ _)).mem_iff.mpr hb) z
  have o7 : owns ((V.ref p, S.m p (.dk [] [])) :: (slots σ ρ2 ++ (y, .d yd) :: Γ)) = p :: owns (slots σ ρ2 ++ Γ) := by
    show p :: owns (slots σ ρ2 ++ (y, S.d yd) :: Γ) = p :: owns (slots σ ρ2 ++ Γ)
    rw [owns_app, owns_app]; rfl
  rw [o7] at ay
  refine ⟨g1, [(key, y)], rfl, Nat.le_of_ble_eq_true rfl, q _ _ ρ2 _ ?_ (h2 p)⟩
  exact r4.drop2.write (m' := .dk [key] [yd]) dK_nc ⟨[y], upd_same, rfl, AtL.step (upd_step List.mem_cons_self) (.cons ay .nil)⟩⟩
/-! ### f() -/
theorem de_call0 (c : Cn G E X k gq) (F : FnOk X.prog X.w X.K X.mg X.base (L2N.CX X.prog X.w) k f fd ps (toSp G n sp)) (hm : X.mg x = some (.ref f)) (hk : PySem.W.keepIn X.K (.ref f) = true) (hb : Binds X.K fd ps []) (hg : Gl X x := by rfl) (hdb : (x == ("__debug__" : Str)) = false := by decide) :
    DE G E X (.Call (.Name x p) [] [] pos) (tCall (toSp G n sp) [] E tNil) (rCall n sp rNil) := ⟨pe_call0 F c.room hg hm hk hb .nil c.ps hdb, snd_call (da_nil (X := X)).s⟩
end
/-! ### defs that make lambdas -/
section
variable {P : Program} {w : World} {mg : Str → Option Value} {base : Heap} {G : Gw} {k n : Nat} {f : Addr} {fd : FuncData} {ps : List Str} {sp : PSp}
theorem fn_pureL {x qual : Str} {st : Stmt} {N : List Str} (F : Fun G.W.K x qual st f fd) (LA : LamAt G base mg (qual ++ ".<locals>.") fd.code) (S : FnScope N ps (defScope st)) (hn : ps.length ≤ N.length)
    (body : ∀ (cdv : Value) (A : Around) (outer : List PySem.Env) (s : Shared) (H : Hp) (E : XK), LamAt G base mg (qual ++ ".<locals>.") cdv → Cn G E (cxOf (L2N.CX P w) P w G.W.K mg base N qual (defScope st) f cdv A outer s H E) k false →
      ∃ t r, DSs G E (cxOf (L2N.CX P w) P w G.W.K mg base N qual (defScope st) f cdv A outer s H E) (defBody st) t r ∧ ∀ ss R e, sp ss R e → ss.length = ps.length → r (defEnds ps.length R e) (startR ss N.length)) :
    FnOk P w G.W.K mg base (L2N.CX P w) (k + 1) f fd ps (toSp G ps.length sp) := by
  obtain ⟨oc, od, kV, doc, pm, an, cdv, ct, osl, rfl, lk, hcd⟩ := F.ex
  exact fn_of lk hcd S toSp_len fun A outer s H vs Q E hr hsp => body_pure (x := x) S hn hr (fun z => by cases z) (body cdv A outer s H E LA) hsp
theorem fn_pureLG {x qual : Str} {st : Stmt} {N : List Str} (F : Fun G.W.K x qual st f fd) (LA : LamAt G base mg (qual ++ ".<locals>.") fd.code) (S : FnScope N ps (defScope st)) (hn : ps.length ≤ N.length)
    (body : ∀ (cdv : Value) (A : Around) (outer : List PySem.Env) (s : Shared) (H : Hp) (E : XK), LamAt G base mg (qual ++ ".<locals>.") cdv → Cn G E (cxOf (L2N.CX P w) P w G.W.K mg base N qual (defScope st) f cdv A outer s H E) k true →
      ∃ t r, DSs G E (cxOf (L2N.CX P w) P w G.W.K mg base N qual (defScope st) f cdv A outer s H E) (defBody st) t r ∧ ∀ ss R e, sp ss R e → ss.length = ps.length → r (defEnds ps.length R e) (startR ss N.length)) :
    FnOkG P w G.W.K mg base (L2N.CX P w) (k + 1) f fd ps (toSp G ps.length sp) := by
  obtain ⟨oc, od, kV, doc, pm, an, cdv, ct, osl, rfl, lk, hcd⟩ := F.ex
  exact fn_ofG lk hcd S toSp_len fun A outer s H vs Q E hr hg hsp => body_pure (x := x) S hn hr (fun _ => hg) (body cdv A outer s H E LA) hsp
end
end QL
set_option Elab.async false
set_option linter.all false
set_option maxRecDepth 100000
set_option maxHeartbeats 4000000
/-! methods that say super().m(..), in classes that are no exceptions -/
namespace QL
open PySem PySem.Spec PyProof.Rows L2
open PySem.W (Frag ksEnv ksFn ks_superIn clsIn mroIn nsIn typeIn codeIn)
structure FnScopeS (N ps : List Str) (scope : Scope) : Prop where
  kind : scope.kind = .function
  co : scope.isCoroutine = false
  gen : scope.isGenerator = false
  nd : N.Nodup
  pre : N.take ps.length = ps
  par : ∀ x ∈ ps, scope.names.lookup x = some .local
  nocell : ∀ x ∈ scope.names, x.2 ≠ .cell
  onlyC : ∀ y ∈ scope.names, y.2 = .free → y.1 = "__class__"
  hasC : scope.names.lookup ("__class__" : Str) = some .free
  sup : scope.names.lookup ("super" : Str) = some .globalImplicit
/-- the context of such a method's body -/
def cxS (CX : CXT) (P : Program) (w : World) (K : Frag) (mg : Str → Option Value) (base : Heap) (N : List Str) (qual : Str) (scope : Scope) (f : Addr) (cd : Value) (cc : Addr) (A : Around) (outer : List PySem.Env) (s : Shared) (H : Hp) (E : XK) : Cx where
  prog := P
  w := w
  K := K
  mg := mg
  base := base
  A := A.deeper (ksEnv qual scope s.heap.objs.size f cd cc)
  N := N
  s_0 := s
  H_0 := H
  env := ksEnv qual scope s.heap.objs.size f cd cc
  outer := outer
  stack := ksEnv qual scope s.heap.objs.size f cd cc :: outer
  ex := []
  calm := true
  fn := fun _ => false
  pn := []
  xe := fun e s' => wpAny (model P w) (A.deeper (ksEnv qual scope s.heap.objs.size f cd cc)) (leaving (ksEnv qual scope s.heap.objs.size f cd cc) e) (fun _ s'' => CX outer H s E e s'') (fun e' s'' => CX outer H s E e' s'') s'
theorem lookup_one {x : Str} {u : Value} : ∀ {l : List (Str × Value)}, (x, u) ∈ l → (∀ p ∈ l, p.1 = x → p.2 = u) → l.lookup x = some u
  | [], h, _ => by cases h
  | (y, v) :: l, h, hu => by
    rw [List.lookup_cons]
    by_cases e : x = y
    · subst e
      have ev : v = u := hu (x, v) List.mem_cons_self rfl
      rw [beq_self_eq_true, ev]
    · have h2 : (x == y) = false := beq_eq_false_iff_ne.mpr e
      rw [h2]
      rcases List.mem_cons.mp h with z | z
      · exact absurd (congrArg Prod.fst z) e
      · exact lookup_one z fun p hp => hu p (List.mem_cons_of_mem _ hp)
theorem lookup_zipR {ps : List Str} {us : List Value} {i : Nat} {x : Str} {u : Value} (nd : ps.Nodup) (hp : ps[i]? = some x) (hu : us[i]? = some u) : (ps.zip us).reverse.lookup x = some u := by
  refine lookup_one ?_ fun p hm e => ?_
  · rw [List.mem_reverse]
    refine List.mem_of_getElem? (i := i) ?_
    rw [List.getElem?_zip_eq_some]
    exact ⟨hp, hu⟩
  · rw [List.mem_reverse] at hm
    obtain ⟨j, hj⟩ := List.getElem?_of_mem hm
    obtain ⟨y, v⟩ := p
    rw [List.getElem?_zip_eq_some] at hj
    have e : y = x := e
    subst e
    obtain ⟨h1, g1⟩ := List.getElem?_eq_some_iff.mp hj.1
    obtain ⟨h2, g2⟩ := List.getElem?_eq_some_iff.mp hp
    have : j = i := (List.getElem_inj nd).mp (by rw [g1, g2])
    subst this
    have := hj.2.symm.trans hu
    cases this
    rfl
theorem inv_startS {CX : CXT} {P : Program} {w : World} {K : Frag} {mg : Str → Option Value} {base : Heap} {N ps : List Str} {qual : Str} {scope : Scope} {f cc : Addr} {cd : Value} {A : Around} {outer : List PySem.Env} {s : Shared} {h0 : Heap} {t0 : Nat} {H : Hp} {E : XK} {us : List Value} {vs : List V} {cv : Value} {cl : Value} {cld : Option Addr} {csl : Array (Option Value)}
    (S : FnScopeS N ps scope) (hcc : K.lookup cc = some ⟨cl, cld, .cell (some cv), csl⟩) (hd : A.handled = none) (e0 : Env0 P w K mg base A outer s H) (hl : vs.length = ps.length) (r : Vals vs us)
    (ns : h0.Ns s.heap.objs.size (fun x => (ps.zip us).reverse.lookup x)) (hk : ∀ b o, s.heap.get? b = some o → h0.get? b = some o) :
    Inv (cxS CX P w K mg base N qual scope f cd cc A outer s H E) [] (L2.start N vs) H { s with heap := h0, toks := t0 } := by
  have hpl : ps.length ≤ N.length := by have := congrArg List.length S.pre; rw [List.length_take] at this; omega
  have noA : ∀ b : Addr, b ∉ (cxS CX P w K mg base N qual scope f cd cc A outer s H E).ex := fun b z => absurd (show b ∈ ([] : List Addr) from z) (by simp)
  have bcc := e0.mod.kin _ _ hcc
  have one : ∀ (x : Str) (c : Addr), ([(("__class__" : Str), cc)] : List (Str × Addr)).lookup x = some c → x = "__class__" ∧ c = cc := fun x c h => by
    rw [List.lookup_cons] at h
    by_cases e : x = "__class__"
    · subst e
      rw [beq_self_eq_true] at h
      cases h
      exact ⟨rfl, rfl⟩
    · have h2 : (x == ("__class__" : Str)) = false := beq_eq_false_iff_ne.mpr e
      rw [h2] at h
      cases h
  refine ⟨⟨e0.mod, S.kind, rfl, rfl, Nat.le_refl _, fun y z c h1 h2 => ?_, fun y hy => ?_, (fun _ _ hf _ => Bool.noConfusion (show false = true from hf)), fun _ => hd, Around.frames_deeper e0.frames, .inr ⟨rfl, rfl⟩, fun b z => absurd z (noA b), e0.bs, e0.bsz, fun b _ _ => noA b, fun b z => absurd z (noA b), e0.funs, e0.frf⟩,
    rfl, e0.bare, Un.kept hk, ⟨_, ns, fun i y v h1 h2 h3 => ?_⟩, fun y c h => ?_, e0.hok.fresh (Nat.le_refl _), fun y c h => ?_, fun p hp => absurd (show p ∈ ([] : List (Addr × Obj)) from hp) (by simp), e0.hok.kept hk, ?_⟩
  · rw [(one y c h1).1, (one z c h2).1]
  · have hy : scope.names.lookup y = some .cell ∨ scope.names.lookup y = some .free := hy
    rcases hy with hy | hy
    · exact absurd rfl (S.nocell _ (PySem.mem_of_lookup hy))
    · have e : y = "__class__" := S.onlyC _ (PySem.mem_of_lookup hy) rfl
      subst e
      exact ⟨cc, rfl⟩
  · have hi : i < vs.length := by
      unfold L2.start at h2
      by_cases hi : i < vs.length
      · exact hi
      · rw [List.getElem?_append_right (by simpa using hi), List.getElem?_replicate] at h2
        split at h2 <;> cases h2
    have ha : vs[i]? = some v := by
      unfold L2.start at h2
      rw [List.getElem?_append_left (by simpa using hi), List.getElem?_map] at h2
      cases e : vs[i]? with
      | none => rw [e] at h2; cases h2
      | some a => rw [e] at h2; cases h2; rfl
    obtain ⟨u, hu, rv⟩ := r.get ha
    have hp : ps[i]? = some y := by
      rw [← S.pre, List.getElem?_take_of_lt (by omega)]; exact h1
    have ndP : ps.Nodup := by rw [← S.pre]; exact S.nd.sublist (List.take_sublist _ _)
    exact ⟨u, rv, .inl ⟨S.par y (List.mem_of_getElem? hp), lookup_zipR ndP hp hu⟩⟩
  · obtain ⟨_, rfl⟩ := one y c h
    exact ⟨_, _, hk _ _ (e0.bs _ _ bcc).1, rfl⟩
  · obtain ⟨_, rfl⟩ := one y c h
    exact (e0.bs _ _ bcc).2
  · unfold L2.start
    show _ = N.length
    rw [List.length_append, List.length_map, List.length_replicate]
    omega
/-! ### statements where the running code is known -/
structure PSA (X : Cx) (B : List Stmt) (st : Stmt) (t : TS) : Prop where
  run : ∀ (pins : List (Addr × Obj)) (s : Shared) (σ : L2.St) (H : Hp) (D : Ends), Inv X pins σ H s → t D σ H → _root_.PySem.wpAt (model X.prog X.w) X.A (.func B X.env) (exec st X.env) (SP X pins D) X.xe s
structure PSsA (X : Cx) (B : List Stmt) (st : List Stmt) (t : TS) : Prop where
  run : ∀ (pins : List (Addr × Obj)) (s : Shared) (σ : L2.St) (H : Hp) (D : Ends), Inv X pins σ H s → t D σ H → _root_.PySem.wpAt (model X.prog X.w) X.A (.func B X.env) (execs st X.env) (SP X pins D) X.xe s
section
variable {X : Cx} {B : List Stmt} {st : Stmt} {rest : List Stmt} {t u : TS}
theorem PS.at_ (h : PS X st t) : PSA X B st t := ⟨fun pins s σ H D I q => PySem.wpAt_of_wpAny (h.run pins s σ H D I q)⟩
theorem PSs.at_ (h : PSs X rest t) : PSsA X B rest t := ⟨fun pins s σ H D I q => PySem.wpAt_of_wpAny (h.run pins s σ H D I q)⟩
theorem pssA_cons (h1 : PSA X B st t) (h2 : PSsA X B rest u) : PSsA X B (st :: rest) (tSeq t u) := by
  refine ⟨fun pins s σ H D I h => ?_⟩
  refine PySem.ks_wpAt_execs_cons (PySem.wpAt_mono (h1.run pins s σ H { D with nx := u D } I h) (fun f s1 q => ?_) fun _ _ z => z)
  cases f with
  | next =>
    obtain ⟨σ', H', I', q⟩ := q
    exact h2.run pins s1 σ' H' D I' q
  | ret v => exact q
  | brk => exact q
  | cont => exact q
end
theorem fn_ofS {P : Program} {w : World} {K : Frag} {mg : Str → Option Value} {base : Heap} {CX : CXT} {k : Nat} {f cc : Addr} {name qual : Str} {params : Arguments} {body : List Stmt} {scope : Scope} {dV kV doc pm cdv ct oc cv cl : Value} {an od cld : Option Addr} {osl csl : Array (Option Value)} {N ps : List Str} {sp : Sp}
    (lk : K.lookup f = some ⟨oc, od, .func (ksFn name qual params body scope dV kV doc pm an cdv ct cc), osl⟩) (hcd : codeIn K cdv qual = true) (hcc : K.lookup cc = some ⟨cl, cld, .cell (some cv), csl⟩) (S : FnScopeS N ps scope) (len : ∀ vs H Q E, sp vs H Q E → vs.length = ps.length)
    (hbody : ∀ (A : Around) (outer : List PySem.Env) (s : Shared) (H : Hp) (vs : List V) (Q : VK) (E : XK), Room k (A.deeper (ksEnv qual scope s.heap.objs.size f cdv cc)) → sp vs H Q E →
      ∃ t, PSsA (cxS CX P w K mg base N qual scope f cdv cc A outer s H E) body body t ∧ t { nx := fun _ H' => Q .non H', rt := Q } (L2.start N vs) H) :
    FnOk P w K mg base CX (k + 1) f (ksFn name qual params body scope dV kV doc pm an cdv ct cc) ps sp := by
  refine ⟨len, fun A outer s H args us vs Q E hr e0 hb r hsp => ?_⟩
  have kin : K.In s.heap := e0.mod.kin.keeps fun b o e => (e0.bs b o e).1
  have lim : s.heap.NoLimit := e0.mod.nolimit.keeps fun b o e => (e0.bs b o e).1
  refine PySem.ks_codeAny_call_defAt (fd := ksFn name qual params body scope dV kV doc pm an cdv ct cc) (body := body) (binds := ps.zip us) hr.depth (kin _ _ lk) rfl lim (PySem.W.codeRec_of kin hcd) rfl hb S.nocell (fun y hy => S.par _ (List.of_mem_zip hy).1) (fun h0 hns hk => ?_) S.co S.gen S.kind
  obtain ⟨t, ht, hq⟩ := hbody A outer s H vs Q E (hr.deeper _) hsp
  have J := inv_startS (CX := CX) (E := E) (qual := qual) (f := f) (cd := cdv) (t0 := s.toks + (ps.zip us).length) S hcc hr.hd e0 (len _ _ _ _ hsp) r hns hk
  refine PySem.wpAt_mono (ht.run [] _ (L2.start N vs) H _ J hq) (fun fl s' z => ?_) fun _ _ z => z
  cases fl with
  | ret u =>
    obtain ⟨v, _, H', J', rv, q⟩ := z
    exact ⟨v, H', J'.os, J'.bare, J'.base, J'.hok, rv, q⟩
  | next =>
    obtain ⟨_, H', J', q⟩ := z
    exact ⟨.non, H', J'.os, J'.bare, J'.base, J'.hok, rfl, q⟩
  | brk =>
    obtain ⟨_, _, _, q⟩ := z
    cases q
  | cont =>
    obtain ⟨_, _, _, q⟩ := z
    cases q
end QL
set_option Elab.async false
set_option linter.all false
set_option maxRecDepth 100000
set_option maxHeartbeats 4000000
namespace QL
open PySem PySem.Spec PyProof.Rows L2
open PySem.W (Frag ksEnv ksFn ks_superIn clsIn mroIn nsIn typeIn codeIn)
/-- what the written part says of super().m in a method of D, for an instance of C: it is the def at g -/
structure SupM (K : Frag) (C D : Addr) (m : Str) (g : Addr) : Prop where
  isD : (clsIn K D).isSome = true
  sub : mroIn K C (.ref D) = some true
  sup : ks_superIn K C D m = some (some (.ref g))
  ty : typeIn K (.ref g) = some (.type "function")
  fi : PySem.W.fnIn K g = true
/-- what is known of the method's own def -/
structure SupT (P : Program) (K : Frag) (mg : Str → Option Value) (scope : Scope) (slf : Str) (f cda cc D : Addr) : Prop where
  fn : ∃ (oc : Value) (od : Option Addr) (osl : Array (Option Value)) (fd : FuncData) (ar : Arg), K.lookup f = some ⟨oc, od, .func fd, osl⟩ ∧ (fd.params.posonlyargs ++ fd.params.args).head? = some ar ∧ ar.arg = slf
  cd : ∃ (ccl : Value) (cdd : Option Addr) (vs : Array Value) (ccs : Array (Option Value)) (file : Str) (tf : Tok), K.lookup cda = some ⟨ccl, cdd, .fields vs, ccs⟩ ∧ vs[2]? = some (.str file tf) ∧ ((P.main.file : Str) == file) = true
  cc : ∃ (cl : Value) (cld : Option Addr) (csl : Array (Option Value)), K.lookup cc = some ⟨cl, cld, .cell (some (.ref D)), csl⟩
  ks : scope.names.lookup ("super" : Str) = some .globalImplicit
  kc : scope.names.lookup ("__class__" : Str) = some .free
  ka : scope.names.lookup slf = some .local
  kf : scope.kind = .function
  gs : mg "super" = none
  top : (P.main.scope.names.lookup ("super" : Str)).isSome = false
  opq : nsIn K cStatics "thirdparty.any" = some none
/-- super().m(..) as a statement -/
def tSup (K : Frag) (i : Nat) (D : Addr) (m : Str) (g : Addr) (sp : Sp) (E : XK) (t : TA) : TS := fun De σ H => ∃ (x dx C : Addr) (fs : List (Str × V)), σ[i]? = some (some (.ref x)) ∧ H x = some (.ins C dx fs) ∧ SupM K C D m g ∧ t σ H fun vs H1 => sp (.ref x :: vs) H1 (fun _ H2 => De.nx σ H2) E
theorem inst_at {X : Cx} {pins : List (Addr × Obj)} {σ : L2.St} {H : Hp} {s : Shared} {x C dx : Addr} {fs : List (Str × V)} (I : Inv X pins σ H s) (h : H x = some (.ins C dx fs)) : ∃ od, PySem.W.InstAt s.heap x (PySem.W.instObj C dx) C (some od) := by
  obtain ⟨_, _, ne, ho, mA, hns, _, _⟩ := I.hok x _ h
  obtain ⟨od, J, _⟩ := ObjM.look ⟨ho, hns, ne⟩
  exact ⟨od, J⟩
theorem psA_super {P : Program} {w : World} {K : Frag} {mg : Str → Option Value} {base : Heap} {CX : CXT} {N : List Str} {qual : Str} {scope : Scope} {f cda cc D g : Addr} {A : Around} {outer : List PySem.Env} {s0 : Shared} {H0 : Hp} {E0' E : XK} {B : List Stmt} {slf m : Str} {i k : Nat} {sp : Sp} {e : Expr} {es : List Expr} {t : TA} {p0 p1 apos pos spos : Pos}
    (S : SupT P K mg scope slf f cda cc D) (F : FnR P w K mg base CX k g sp) (hr : Room k (A.deeper (ksEnv qual scope s0.heap.objs.size f (.ref cda) cc))) (hx : Passes CX (cxS CX P w K mg base N qual scope f (.ref cda) cc A outer s0 H0 E0') E)
    (ha : PA (cxS CX P w K mg base N qual scope f (.ref cda) cc A outer s0 H0 E0') (e :: es) t) (hN : N[i]? = some slf) (hm : (m == ("__class__" : Str)) = false := by decide +kernel)
    (hst : starEach (e :: es) (cxS CX P w K mg base N qual scope f (.ref cda) cc A outer s0 H0 E0').env = (false, eval e (cxS CX P w K mg base N qual scope f (.ref cda) cc A outer s0 H0 E0').env) :: starEach es (cxS CX P w K mg base N qual scope f (.ref cda) cc A outer s0 H0 E0').env := by rfl)
    (hpl : (backTo pos (starEach es (cxS CX P w K mg base N qual scope f (.ref cda) cc A outer s0 H0 E0').env)).any (·.1) = false := by rfl)
    (hline : (apos.endLine == pos.line) = true := by rfl)
    (hfew : methodCallForm ((e :: es).length + 0) (backTo pos (starEach (e :: es) (cxS CX P w K mg base N qual scope f (.ref cda) cc A outer s0 H0 E0').env)) (backToKw pos (keywordEach [] (cxS CX P w K mg base N qual scope f (.ref cda) cc A outer s0 H0 E0').env)) = true := by rfl)
    (hi : interactive (cxS CX P w K mg base N qual scope f (.ref cda) cc A outer s0 H0 E0').env = false := by rfl)
    (hs : swapsWith (.Call (.Attribute (.Call (.Name "super" p0) [] [] p1) m apos) (e :: es) [] pos) none spos.line (cxS CX P w K mg base N qual scope f (.ref cda) cc A outer s0 H0 E0').env = pure false := by rfl) :
    PSA (cxS CX P w K mg base N qual scope f (.ref cda) cc A outer s0 H0 E0') B (.Expr (.Call (.Attribute (.Call (.Name "super" p0) [] [] p1) m apos) (e :: es) [] pos) spos) (tSup K i D m g sp E t) := by
  refine ⟨fun pins s σ H De I h => ?_⟩
  obtain ⟨x, dx, C, fs, hσ, hH, M, h⟩ := h
  obtain ⟨oc, od, osl, fd, ar, lk, hhd, har⟩ := S.fn
  obtain ⟨ccl, cdd, vs, ccs, file, tf, lcd, hvs, hfile⟩ := S.cd
  obtain ⟨cl, cld, csl, lcc⟩ := S.cc
  have kin : K.In s.heap := I.kIn
  obtain ⟨mb, hmb, hbb⟩ := I.mod.blt
  refine PySem.ks_wpAt_Expr_any (PySem.ks_wpAt_MethodCall ?_ (PySem.XS.mcall_eq hline hfew)) hi hs
  refine PySem.ks_wpAt_super_base (f := f) (cc := cda) S.ks S.kc hm rfl (kin _ _ lk) rfl hhd rfl (kin _ _ lcd) rfl hvs hfile S.top ?_
  refine PySem.W.ks_loadName_global S.kf S.ks (Calls.loadGlobal_builtin (I.mod.glob.keeps I.bk) S.gs (hmb.keeps I.bk) ((hbb _ (by decide +kernel)).trans (by decide +kernel)) ⟨rfl, ?_⟩)
  refine wpAny_loadName_free S.kf S.kc rfl ⟨_, kin _ _ lcc, rfl⟩ ?_
  obtain ⟨ml, hns, hl⟩ := I.loc
  obtain ⟨u, ru, hlook⟩ := hl i slf (.ref x) hN hσ (.inl S.ka)
  obtain rfl : u = Value.ref x := ru
  have hml : ml slf = some (.ref x) := by
    rcases hlook with ⟨_, z⟩ | ⟨z, _⟩
    · exact z
    · have ka : scope.names.lookup slf = some .local := S.ka
      have z : scope.names.lookup slf = some .cell ∨ scope.names.lookup slf = some .free := z
      rw [ka] at z
      rcases z with z | z <;> cases z
  rw [har]
  refine wpAny_loadName_local S.kf S.ka hns hml ?_
  obtain ⟨odI, J⟩ := inst_at I hH
  cases hcD : clsIn K D with
  | none => have := M.isD; rw [hcD] at this; cases this
  | some cdD =>
    cases hcC : clsIn K C with
    | none => have := M.sup; unfold ks_superIn at this; rw [hcC] at this; cases this
    | some cdC =>
      obtain ⟨oD, hD1, hD2⟩ : ∃ oD, s.heap.get? D = some oD ∧ oD.data = .cls cdD := by
        unfold clsIn at hcD
        split at hcD
        · rename_i c d cd' sl ho
          cases hcD
          exact ⟨_, kin _ _ ho, rfl⟩
        · cases hcD
      obtain ⟨og, hg1, hg2⟩ : ∃ og, s.heap.get? g = some og ∧ og.cls = .type "function" := by
        have ht : (K.lookup g).map (·.cls) = some (.type "function") := M.ty
        cases z : K.lookup g with
        | none => rw [z] at ht; cases ht
        | some og => rw [z] at ht; exact ⟨og, kin _ _ z, Option.some.inj ht⟩
      have hsup := M.sup
      unfold ks_superIn at hsup
      rw [hcC] at hsup
      obtain ⟨hp, gg, dr, tk, os⟩ := s
      refine PySem.ks_wpAny_isType_cls hD1 hD2 ⟨rfl, ?_⟩
      refine PySem.ks_wpAny_call_super hD1 hD2 J.at_ J.cls (fun c z => by cases z) (PySem.W.looks_mroIn kin M.sub) (fun h2 e2 k2 => ?_)
      have I2 : Inv (cxS CX P w K mg base N qual scope f (.ref cda) cc A outer s0 H0 E0') pins σ H ⟨h2, gg, dr, tk, os⟩ := I.kept (t' := tk) k2
      have kin2 : K.In h2 := I2.kIn
      obtain ⟨odI2, J2⟩ := inst_at I2 hH
      refine PySem.ks_wpAny_getMethod_super e2 (PySem.W.looks_opaque kin2 S.opq) (l₀ := cdC.mro) (fun A Q E s k q => wpAny_bind ((PySem.W.looks_clsIn kin2 hcC) A _ E s k (wpAny_pure q))) rfl kin2 hsup (k2 _ _ hg1) hg2 (PySem.W.ks_ne kin2 J2 hcC) hm ?_
      have I3 := ClX.met_new (g := g) (C := x) I2
      refine ClX.callwith_cm I3 (ClX.base_none I2 (Nat.le_refl _)) M.fi (thn (ha.run pos _ _ σ H _ I3 h) fun us s4 ⟨ws, H1, I4, rv, q2⟩ => ⟨⟨ClX.pin_at I4, I4.kIn⟩, ?_⟩) hst hpl
      exact thn (ClX.run_cm F hr hx I4 rv q2) fun _ s5 ⟨v, H2, I5, _, q5⟩ => ⟨σ, H2, I5, q5⟩
end QL
set_option Elab.async false
set_option linter.all false
set_option maxRecDepth 100000
set_option maxHeartbeats 4000000
namespace QL
open PySem PySem.Spec PyProof.Rows L2
open PySem.W (Frag ksEnv ksFn ks_superIn clsIn mroIn nsIn typeIn codeIn)
/-! ### super().m(..) in the pure layer -/
structure DSA (G : Gw) (E : XK) (X : Cx) (B : List Stmt) (st : Stmt) (t : TS) (r : RS) : Prop where
  p : PSA X B st t
  s : SndS G E t r
structure DSsA (G : Gw) (E : XK) (X : Cx) (B : List Stmt) (st : List Stmt) (t : TS) (r : RS) : Prop where
  p : PSsA X B st t
  s : SndS G E t r
section
variable {G : Gw} {E : XK} {X : Cx} {B : List Stmt} {st : Stmt} {rest : List Stmt} {t u : TS} {r q : RS}
theorem DS.at_ (h : DS G E X st t r) : DSA G E X B st t r := ⟨PS.at_ h.p, h.s⟩
theorem DSs.at_ (h : DSs G E X rest t r) : DSsA G E X B rest t r := ⟨PSs.at_ h.p, h.s⟩
theorem dssA_cons (h1 : DSA G E X B st t r) (h2 : DSsA G E X B rest u q) : DSsA G E X B (st :: rest) (tSeq t u) (sSeq r q) := ⟨pssA_cons h1.p h2.p, fun σ H ρ Γ D d re hr o =>
  h1.s σ H ρ Γ _ _ re hr (o.next fun σ' H' ρ' re' h' => h2.s σ' H' ρ' Γ D d re' h' o)⟩
end
theorem fnR_of {P : Program} {w : World} {K : Frag} {mg : Str → Option Value} {base : Heap} {CX : CXT} {k : Nat} {f : Addr} {fd : FuncData} {ps : List Str} {sp : Sp} (F : FnOk P w K mg base CX k f fd ps sp) (hb : Binds K fd ps []) : L2.FnR P w K mg base CX k f sp := fun A outer s H us vs Q E hr e0 r h => by
  have kin : K.In s.heap := e0.mod.kin.keeps fun b o e => (e0.bs b o e).1
  have hl : us.length = ps.length := by rw [← r.length]; exact F.len _ _ _ _ h
  have b := hb s us kin (by rw [List.append_nil]; exact hl)
  rw [List.append_nil] at b
  exact F.run A outer s H ⟨us, []⟩ us vs Q E hr e0 b r h
def sSup (cs : List Nat) (n i : Nat) (sp : PSp) (r : RA) : RS := fun d ρ => (∃ a c ns xs, ρ[i]? = some (some (.m a (.obj c ns xs))) ∧ c ∈ cs) ∧ rCallS n i sp r ρ (fun _ ρ' => d.nx ρ') d.ex
theorem snd_sup {G : Gw} {E : XK} {i n : Nat} {D g : Addr} {m : Str} {sp : PSp} {t : TA} {r : RA} {cs : List Nat} (SM : ∀ c ∈ cs, SupM G.W.K (G.W.CA c) D m g) (hs : SndA G E t r) : SndS G E (tSup G.W.K i D m g (toSp G n sp) E t) (sSup cs n i sp r) := fun σ H ρ Γ De d re hr o => by
  obtain ⟨⟨a, c, ns, xs, h0, hc⟩, hr⟩ := hr
  obtain ⟨hv, dx, vs, h1, h2, h3⟩ := re.mget h0
  obtain ⟨v0, hv0, z⟩ := snd_callS hs σ H ρ Γ (fun _ H2 => De.nx σ H2) _ d.ex re hr (fun v s ρ' H' r' h' => o.nx _ _ _ r'.drop h') o.ex
  rw [hv] at hv0
  cases hv0
  refine ⟨a, dx, _, _, hv, h1, SM c hc, ?_⟩
  have e : (fun vs H1 => toSp G n sp ((V.ref a :: vs) ++ []) H1 (fun _ H2 => De.nx σ H2) E) = fun vs H1 => toSp G n sp (V.ref a :: vs) H1 (fun _ H2 => De.nx σ H2) E := by
    funext vs H1
    rw [List.append_nil]
  have z2 : t σ H (fun vs H1 => toSp G n sp ((V.ref a :: vs) ++ []) H1 (fun _ H2 => De.nx σ H2) E) := z
  rw [e] at z2
  exact z2
section
variable {P : Program} {w : World} {G : Gw} {mg : Str → Option Value} {base : Heap} {N : List Str} {qual : Str} {scope : Scope} {f cda cc D g : Addr} {A : Around} {outer : List PySem.Env} {s0 : Shared} {H0 : Hp} {E : XK} {B : List Stmt} {slf m : Str} {k n : Nat} {gq : Bool} {sp : PSp} {e : Expr} {es : List Expr} {t : TA} {r : RA} {cs : List Nat} {p0 p1 apos pos spos : Pos}
theorem dsA_super (i : Nat) (c : Cn G E (cxS (L2N.CX P w) P w G.W.K mg base N qual scope f (.ref cda) cc A outer s0 H0 E) k gq) (S : SupT P G.W.K mg scope slf f cda cc D) (SM : ∀ c ∈ cs, SupM G.W.K (G.W.CA c) D m g) (F : L2.FnR P w G.W.K mg base (L2N.CX P w) k g (toSp G n sp))
    (ha : DA G E (cxS (L2N.CX P w) P w G.W.K mg base N qual scope f (.ref cda) cc A outer s0 H0 E) (e :: es) t r) (hN : N[i]? = some slf := by rfl) (hm : (m == ("__class__" : Str)) = false := by decide +kernel)
    (hst : starEach (e :: es) (cxS (L2N.CX P w) P w G.W.K mg base N qual scope f (.ref cda) cc A outer s0 H0 E).env = (false, eval e (cxS (L2N.CX P w) P w G.W.K mg base N qual scope f (.ref cda) cc A outer s0 H0 E).env) :: starEach es (cxS (L2N.CX P w) P w G.W.K mg base N qual scope f (.ref cda) cc A outer s0 H0 E).env := by rfl)
    (hpl : (backTo pos (starEach es (cxS (L2N.CX P w) P w G.W.K mg base N qual scope f (.ref cda) cc A outer s0 H0 E).env)).any (·.1) = false := by rfl)
    (hline : (apos.endLine == pos.line) = true := by rfl)
    (hfew : methodCallForm ((e :: es).length + 0) (backTo pos (starEach (e :: es) (cxS (L2N.CX P w) P w G.W.K mg base N qual scope f (.ref cda) cc A outer s0 H0 E).env)) (backToKw pos (keywordEach [] (cxS (L2N.CX P w) P w G.W.K mg base N qual scope f (.ref cda) cc A outer s0 H0 E).env)) = true := by rfl)
    (hi : interactive (cxS (L2N.CX P w) P w G.W.K mg base N qual scope f (.ref cda) cc A outer s0 H0 E).env = false := by rfl)
    (hs : swapsWith (.Call (.Attribute (.Call (.Name "super" p0) [] [] p1) m apos) (e :: es) [] pos) none spos.line (cxS (L2N.CX P w) P w G.W.K mg base N qual scope f (.ref cda) cc A outer s0 H0 E).env = pure false := by rfl) :
    DSA G E (cxS (L2N.CX P w) P w G.W.K mg base N qual scope f (.ref cda) cc A outer s0 H0 E) B (.Expr (.Call (.Attribute (.Call (.Name "super" p0) [] [] p1) m apos) (e :: es) [] pos) spos) (tSup G.W.K i D m g (toSp G n sp) E t) (sSup cs n i sp r) :=
  ⟨psA_super S F c.room c.ps ha.p hN hm hst hpl hline hfew hi hs, snd_sup SM ha.s⟩
end
/-- a method's def that says super(), as it stands behind the top -/
structure FunS (P : Program) (K : Frag) (mg : Str → Option Value) (x qual : Str) (st : Stmt) (kws : List (Str × V)) (f D : Addr) (fd : FuncData) : Prop where
  ex : ∃ (oc : Value) (od : Option Addr) (kV doc pm : Value) (an : Option Addr) (cda : Addr) (ct : Value) (cc : Addr) (osl : Array (Option Value)) (ccl : Value) (cdd : Option Addr) (vs : Array Value) (ccs : Array (Option Value)) (file : Str) (tf : Tok) (cl : Value) (cld : Option Addr) (csl : Array (Option Value)),
    KwdV K kV kws ∧ fd = ksFn x qual (defArgs st) (defBody st) (defScope st) .none kV doc pm an (.ref cda) ct cc ∧ K.lookup f = some ⟨oc, od, .func fd, osl⟩ ∧ codeIn K (.ref cda) qual = true ∧ K.lookup cda = some ⟨ccl, cdd, .fields vs, ccs⟩ ∧ vs[2]? = some (.str file tf) ∧ ((P.main.file : Str) == file) = true ∧ K.lookup cc = some ⟨cl, cld, .cell (some (.ref D)), csl⟩
  gs : mg "super" = none
  top : (P.main.scope.names.lookup ("super" : Str)).isSome = false
  opq : nsIn K cStatics "thirdparty.any" = some none
theorem fn_pureS {P : Program} {w : World} {mg : Str → Option Value} {base : Heap} {G : Gw} {k : Nat} {f D : Addr} {fd : FuncData} {ps : List Str} {sp : PSp} {x qual slf : Str} {st : Stmt} {N : List Str} {ar : Arg} {kws : List (Str × V)} (F : FunS P G.W.K mg x qual st kws f D fd) (S : FnScopeS N ps (defScope st)) (hn : ps.length ≤ N.length) (hs : ps[0]? = some slf) (har : ((defArgs st).posonlyargs ++ (defArgs st).args).head? = some ar) (han : ar.arg = slf)
    (body : ∀ (cda cc : Addr) (A : Around) (outer : List PySem.Env) (s : Shared) (H : Hp) (E : XK), SupT P G.W.K mg (defScope st) slf f cda cc D → Cn G E (cxS (L2N.CX P w) P w G.W.K mg base N qual (defScope st) f (.ref cda) cc A outer s H E) k false →
      ∃ t r, DSsA G E (cxS (L2N.CX P w) P w G.W.K mg base N qual (defScope st) f (.ref cda) cc A outer s H E) (defBody st) (defBody st) t r ∧ ∀ ss R e, sp ss R e → ss.length = ps.length → r (defEnds ps.length R e) (startR ss N.length)) :
    FnOk P w G.W.K mg base (L2N.CX P w) (k + 1) f fd ps (toSp G ps.length sp) := by
  obtain ⟨oc, od, kV, doc, pm, an, cda, ct, cc, osl, ccl, cdd, vs, ccs, file, tf, cl, cld, csl, _, rfl, lk, hcd, lcd, hvs, hfile, lcc⟩ := F.ex
  refine fn_ofS lk hcd lcc S toSp_len fun A outer s H vs Q E hr hsp => ?_
  obtain ⟨ss, Γ, R, e, h1, h2, h3, h4, h5, h6⟩ := hsp
  have tk : L2N.Takes (cxS (L2N.CX P w) P w G.W.K mg base N qual (defScope st) f (.ref cda) cc A outer s H E) (fun cls d _ H => E cls d H) := L2N.takes_of rfl rfl rfl rfl
  have ST : SupT P G.W.K mg (defScope st) slf f cda cc D := ⟨⟨_, _, _, _, ar, lk, har, han⟩, ⟨_, _, _, _, _, _, lcd, hvs, hfile⟩, ⟨_, _, _, lcc⟩, S.sup, S.hasC, S.par _ (List.mem_of_getElem? hs), S.kind, F.gs, F.top, F.opq⟩
  obtain ⟨t, r, hd, hb⟩ := body cda cc A outer s H E ST ⟨rfl, rfl, hr, (fun z => by cases z), tk, L2N.passes_call tk (fun _ _ _ _ z => z), passes_of rfl, S.nd⟩
  refine ⟨t, hd.p, ?_⟩
  have r0 := rep_start (N := N) h1 (by omega) h3
  refine hd.s _ _ _ Γ _ _ r0 (hb ss R e h4 (by omega)) ⟨fun σ' H' ρ' r' h' => h5 _ _ _ _ (hold_back (r'.data (v := .non) .non) _) h', fun σ' H' ρ' v z r' h' => h5 _ _ _ _ (hold_back r' _) h', fun _ _ _ _ z => z.elim, fun _ _ _ _ z => z.elim, h6⟩
end QL
set_option Elab.async false
set_option linter.all false
set_option maxRecDepth 100000
set_option maxHeartbeats 4000000
namespace QL
open PySem PySem.Spec PyProof.Rows L2
open PySem.W (Frag)
/-! ### f(*e) -/
def rCallY (n : Nat) (sp : PSp) (ra : RE) : RE := fun ρ R e => ra ρ (fun s ρ' => match s.dat with
  | some (.tup ds) => ds.length = n ∧ sp (ds.map S.d) (fun s _ => R s ρ') e
  | _ => False) e
section
variable {G : Gw} {E : XK} {X : Cx} {k n : Nat} {gq : Bool} {f : Addr} {fd : FuncData} {ps : List Str} {sp : PSp} {x : Str} {a b : Expr} {es : List Expr} {ta tb : TE} {ra rb : RE} {t : TA} {r : RA} {p pos sp_ : Pos}
theorem de_callY (c : Cn G E X k gq) (F : FnOk X.prog X.w X.K X.mg X.base (L2N.CX X.prog X.w) k f fd ps (toSp G n sp)) (hm : X.mg x = some (.ref f)) (hk : PySem.W.keepIn X.K (.ref f) = true) (hb : Binds X.K fd ps []) (h : DE G E X a ta ra) (hg : Gl X x := by rfl) (hd : (x == ("__debug__" : Str)) = false := by decide) (hst : starEach [.Starred a sp_] X.env = [(true, eval a X.env)] := by rfl) :
    DE G E X (.Call (.Name x p) [.Starred a sp_] [] pos) (fun σ H Q => ta σ H fun y H1 => ∃ a xs, y = V.ref a ∧ (SqT G.W.K H1 a xs ∨ SqL G.W.K H1 a xs) ∧ toSp G n sp xs H1 Q E) (rCallY n sp ra) := by
  refine ⟨?_, fun σ H ρ Γ Q R e re hr q o => h.s σ H ρ Γ _ _ e re hr (fun v s ρ' H' r' h' => ?_) o⟩
  · have z := StX.pe_callS1 (p := p) (pos := pos) (sp_ := sp_) (fnR_of F hb) c.room hk hg hm c.ps h.p hd hst
    rw [c.K] at z
    exact z
  · try dsimp only at h'
    split at h'
    · rename_i ds hd
      have r2 := r'.dat hd
      have z : At G.W H' _ v (.tup ds) := r2.head
      cases z with
      | @tup a0 vs _ g1 g2 =>
        refine ⟨a0, vs, rfl, .inl (At.sqT g1), ?_⟩
        have g3 : AtL G.W H' (owns (slots σ ρ' ++ Γ)) vs ds := AtL.step (step_perm fun b hb => by rw [owns_cons]; exact hb) g2
        have hh := at_items r2.drop.hold g3
        refine ⟨ds.map S.d, slots σ ρ' ++ Γ, fun s _ => R s ρ', e, by rw [List.length_map, g3.length], by rw [g3.length]; exact h'.1, hh, h'.2, fun v2 s2 B H2 h2 hR => q v2 s2 ρ' H2 (slots_out r2.drop h2) hR, o.app _⟩
    · exact False.elim h'
/-! ### f"..." -/
def rJs : List RE → Str → Env → (Str → Env → Prop) → (XD → Prop) → Prop
  | [], acc, ρ, R, _ => R acc ρ
  | r :: rs, acc, ρ, R, e => r ρ (fun s ρ1 => match s with
    | .d (.str y) => (acc ++ y).length ≤ sizeLine ∧ rJs rs (acc ++ y) ρ1 R e
    | _ => False) e
inductive DJ (G : Gw) (E : XK) (X : Cx) : List Expr → List TE → List RE → Prop where
  | nil : DJ G E X [] [] []
  | cons {e : Expr} {t : TE} {r : RE} {es : List Expr} {ts : List TE} {rs : List RE} (h : DE G E X e t r) (hr : DJ G E X es ts rs) : DJ G E X (e :: es) (t :: ts) (r :: rs)
theorem DJ.pj : ∀ {es : List Expr} {ts : List TE} {rs : List RE}, DJ G E X es ts rs → PJ X es ts
  | _, _, _, .nil => .nil
  | _, _, _, .cons h r => .cons h.p r.pj
theorem DJ.snd : ∀ {es : List Expr} {ts : List TE} {rs : List RE}, DJ G E X es ts rs → ∀ (acc : Str) σ H ρ Γ (Q : Str → Hp → Prop) R e, okS acc → Rep G.W σ H ρ Γ → rJs rs acc ρ R e → (∀ z ρ' H', okS z → Rep G.W σ H' ρ' Γ → R z ρ' → Q z H') → Out G E Γ e → tJs ts acc σ H Q
  | _, _, _, .nil, acc, σ, H, ρ, Γ, Q, R, e, ha, re, hr, q, o => q acc ρ H ha re hr
  | _, _, _, .cons h r, acc, σ, H, ρ, Γ, Q, R, e, ha, re, hr, q, o => h.s σ H ρ Γ _ _ e re hr (fun v s ρ1 H1 r1 h1 => by
      try dsimp only at h1
      split at h1
      · rename_i y
        have z : At G.W H1 _ v (.str y) := r1.head
        cases z with
        | str _ hy => exact ⟨y, rfl, h1.1, r.snd (acc ++ y) σ H1 ρ1 Γ Q R e (okS_app ha hy (by rw [← Str.length_append]; exact h1.1)) r1.drop h1.2 q o⟩
      · exact False.elim h1) o
theorem de_js {v1 v2 : Expr} {rest : List Expr} {ts : List TE} {rs : List RE} (h : DJ G E X (v1 :: v2 :: rest) ts rs) : DE G E X (.JoinedStr (v1 :: v2 :: rest) pos) (fun σ H Q => tJs ts Str.empty σ H fun out H1 => Q (.str out) H1) (fun ρ R e => rJs rs Str.empty ρ (fun z ρ' => R (.d (.str z)) ρ') e) :=
  ⟨pe_joined h.pj, fun σ H ρ Γ Q R e re hr q o => h.snd Str.empty σ H ρ Γ _ _ e (by decide +kernel) re hr (fun z ρ' H' hz r' h' => q _ _ _ _ (r'.data (.str z hz)) h') o⟩
theorem de_js1 (h : DE G E X a ta ra) : DE G E X (.JoinedStr [a] pos) ta ra := ⟨pe_joined1 h.p, h.s⟩
def rFmt (ra : RE) : RE := fun ρ R e => ra ρ (fun s ρ' => match s.dat with
  | some (.str y) => R (.d (.str y)) ρ'
  | some (.int i) => (i.natAbs.log2 < 1920 ∧ (Str.ofString (toString i)).length ≤ sizeLine) ∧ R (.d (.str (Str.ofString (toString i)))) ρ'
  | _ => False) e
theorem de_fmt (h : DE G E X a ta ra) : DE G E X (.FormattedValue a (-1) none pos) (tFmt ta) (rFmt ra) := ⟨pe_fmt h.p, fun σ H ρ Γ Q R e re hr q o => h.s σ H ρ Γ _ _ e re hr (fun v s ρ' H' r' h' => by
  try dsimp only at h'
  split at h'
  · rename_i y hy
    have r2 := r'.dat hy
    have z : At G.W H' _ v (.str y) := r2.head
    cases z with
    | str _ hz => exact .inl ⟨y, rfl, hz.1, q _ _ _ _ r2 h'⟩
  · rename_i i hi
    have r2 := r'.dat hi
    have z : At G.W H' _ v (.int i) := r2.head
    cases z
    exact .inr ⟨i, rfl, h'.1.1, q _ _ _ _ (r2.drop.data (.str _ ⟨h'.1.2, ok_ofString _⟩)) h'.2⟩
  · exact False.elim h') o⟩
/-! ### str(x) -/
def rStrI (C : Addr) (sp : Sp) : List V → Hp → VK → Prop := fun xs H Q => ∃ a dx fs, xs = [V.ref a] ∧ H a = some (.ins C dx fs) ∧ sp [.ref a] H (fun v H' => ∃ z : Str, v = .str z ∧ Q (.str z) H') E0
theorem call_strI {C f : Addr} {sp : Sp} (hs : PySem.W.findIn X.K (.ref C) "__str__" = some (some (.ref f))) (hf : PySem.W.isFn X.K (.ref f) = true) (F : FnOk X.prog X.w X.K X.mg X.base (L2N.CX X.prog X.w) k f fd ["self"] sp) (hr : Room (k + 2) X.A) (hb : Binds X.K fd ["self"] []) : CallR X (.type "str") (rStrI C sp) := by
  intro pins s σ H xs us Q I r h
  obtain ⟨a, dx, fs, rfl, ha, q⟩ := h
  obtain ⟨od, J⟩ := inst_at I ha
  cases r with
  | cons rx rr =>
    cases rr
    cases rx
    have hu : X.A.in1.in1.units < cLine := by
      have := hr.un
      show X.A.units + 1 + 1 < cLine
      omega
    refine PySem.W.kso_call hu I.kIn J hs hf (wpAny_call (codeAny_mono (F.run X.A.in1.in1 X.stack s H ⟨[.ref a], []⟩ [.ref a] [.ref a] _ _ hr.in1.in1 I.env0.in1.in1 ?_ (.cons rfl .nil) q) fun r s' hq => ?_))
    · have z := hb s [.ref a] I.kIn rfl
      exact z
    · cases r with
      | error e => exact passN pins σ H s e s' I hq
      | ok fl =>
        cases fl with
        | ret u =>
          obtain ⟨y, H', I', ry, n, ey, q'⟩ := I.after hq
          subst ey
          obtain ⟨t, rfl⟩ := ry
          exact ⟨.str n, H', I', ⟨_, rfl⟩, q'⟩
        | next => exact False.elim hq
        | brk => exact False.elim hq
        | cont => exact False.elim hq
end
end QL
set_option Elab.async false
set_option linter.all false
set_option maxRecDepth 100000
set_option maxHeartbeats 4000000
namespace QL
open PySem PySem.Spec PyProof.Rows L2
open PySem.W (Frag ksFn)
/-! ### keyword-only parameters of such a method -/
theorem FunS.kbn {P : Program} {K : Frag} {mg : Str → Option Value} {x qual : Str} {st : Stmt} {kws : List (Str × V)} {f D0 : Addr} {fd : FuncData} {ps : List Str} (F : FunS P K mg x qual st kws f D0 fd) (n : Nat) (ks : List Str) (ms : List (Str × V)) (g : {α : Type} → List α → List α → List α → List α) (hk : kws ≠ []) (hms : ∀ q ∈ ms, q ∈ kws)
    (hrel : ∀ {vs mz zs : List V} {us mv ws : List Value}, Vals vs us → Vals mz mv → Vals zs ws → Vals (g vs mz zs) (g us mv ws))
    (h : ∀ (D : Addr) (doc pm : Value) (an : Option Addr) (cdv ct : Value) (cc : Addr) (us mv ws : List Value), us.length = n → mv.length = ms.length → ws.length = ks.length →
      KwChain D ((ms.map (·.1)).zip mv) (bindArgs (ksFn x qual (defArgs st) (defBody st) (defScope st) .none (.ref D) doc pm an cdv ct cc) ⟨us, ks.zip ws⟩) (ps.zip (g us mv ws))) :
    ∃ mv : List Value, KBn K fd ps n ks (fun us ws => g us mv ws) (fun vs zs => g vs (ms.map (·.2)) zs) := by
  obtain ⟨oc, od, kV, doc, pm, an, cda, ct, cc, osl, ccl, cdd, vs, ccs, file, tf, cl, cld, csl, hK, rfl, lk, _⟩ := F.ex
  rcases hK with e | ⟨D, rfl, hq⟩
  · exact absurd e hk
  · obtain ⟨mv, hl, rk, hks⟩ := kwd_vals (ms := ms) fun q hm => hq q (hms q hm)
    exact ⟨mv, fun s us ws X l1 l2 => BindsTo.of_looks fun M => KwChain.looks X hks (h D doc pm an (.ref cda) ct cc us mv ws l1 hl l2), fun r1 r2 => hrel r1 rk r2⟩
/-! ### C(k = v, ..) -/
structure DK (G : Gw) (E : XK) (X : Cx) (kws : List Keyword) (t : TA) (r : RA) : Prop where
  p : PK X kws t
  s : SndA G E t r
def rMkK (c m : Nat) (gS : List D → List D) (sp : PSp) (r : RA) : RE := fun ρ R e => r ρ (fun ss ρ' => match dats ss with
  | some ds => ds.length = m ∧ ∀ x, sp (.m x (.obj c [] []) :: (gS ds).map S.d) (fun s B => s = .d .non ∧ ∃ ns xs, B = [(x, .obj c ns xs)] ∧ R (.d (.ins c x ns xs)) ρ') e
  | none => False) e
/-- what the keywords' values and the defaults make -/
def KG (G : Gw) (n m : Nat) (gV : List V → List V → List V) (gS : List D → List D) : Prop := ∀ H O zs ds, zs.length = m → AtL G.W H O zs ds → ∃ ws, (∀ x, gV [.ref x] zs = .ref x :: ws) ∧ AtL G.W H O ws (gS ds) ∧ (gS ds).length + 1 = n
section
variable {G : Gw} {E : XK} {X : Cx} {k n cl : Nat} {gq : Bool} {f : Addr} {fd : FuncData} {ps ks : List Str} {sp : PSp} {x : Str} {a b : Expr} {es : List Expr} {kws : List Keyword} {ta tb : TE} {ra rb : RE} {t tk : TA} {r rk : RA} {p pos kpos : Pos} {nm : Option Str} {g : List Value → List Value → List Value} {gV : List V → List V → List V} {gS : List D → List D}
theorem dk_nil : DK G E X [] tNil rNil := ⟨pk_nil, (da_nil (X := X)).s⟩
theorem dk_cons (ha : DE G E X a ta ra) (hr : DK G E X kws tk rk) : DK G E X (⟨nm, a, kpos⟩ :: kws) (tCons ta tk) (rCons ra rk) := ⟨pk_cons ha.p hr.p, snd_cons ha.s hr.s⟩
theorem de_mkK (c : Cn G E X (k + 1) gq) (M : Mk G.W.K (G.W.CA cl) f) (F : FnOk X.prog X.w X.K X.mg X.base (L2N.CX X.prog X.w) k f fd ps (toSp G n sp)) (hm : X.mg x = some (.ref (G.W.CA cl))) (hb : KBn X.K fd ps 1 ks g gV) (hG : KG G n ks.length gV gS) (h : DK G E X kws tk rk) (hg : Gl X x := by rfl)
    (hall : (backToKw pos (keywordEach kws X.env)).all (·.1.isSome) = true := by rfl) (hks : (backToKw pos (keywordEach kws X.env)).filterMap (·.1) = ks := by rfl) (hdb : (x == ("__debug__" : Str)) = false := by decide)
    (hpl : ((backTo pos (starEach [] X.env)).any (·.1) || (backToKw pos (keywordEach kws X.env)).any (·.1.isNone)) = false := by rfl) :
    DE G E X (.Call (.Name x p) [] kws pos) (tMakeK (G.W.CA cl) 0 ks.length (toSp G n sp) gV E tNil tk) (rMkK cl ks.length gS sp rk) :=
  ⟨pe_makeK0 (by rw [c.K]; exact M) F c.room hg hm hb c.ps h.p hall hks hdb hpl, fun σ H ρ Γ Q R e re hr q o => by
    show tk σ H _
    refine h.s σ H ρ Γ _ _ e re hr (fun vs ss ρ' H' hl r' h' => ?_) o
    try dsimp only at h'
    split at h'
    · rename_i ds hd
      obtain ⟨rt, ha, hn⟩ := Rep.dats' hl hd r'
      obtain ⟨ws, e1, e2, e3⟩ := hG H' _ vs ds (by rw [hn]; exact h'.1) ha
      refine ⟨rfl, by rw [hn]; exact h'.1, fun y dy ny ndy ne => ?_⟩
      rw [e1 y]
      exact mk_norm rt e2 e3 h'.2 (fun v z H2 r2 h2 => q v z ρ' H2 r2 h2) o y dy ny ndy ne
    · exact False.elim h'⟩
/-! ### truth of a value -/
theorem dt_tru (c : Cq G X) (h : DE G E X a ta ra) (he : ∀ whole, isTrue a X.env whole = (do let v ← whole; standAt a.pos; holding [v] (truthy v)) := by intro _; rfl) : DT G E X a (fun σ H Q => ta σ H fun x H' => ∃ k, TruV G.W.K x H' k ∧ Q k H') (rTru ra) := by
  refine ⟨?_, fun σ H ρ Γ Q R e re hr q o => h.s σ H ρ Γ _ _ e re hr (fun v s ρ' H' r' h' => ?_) o⟩
  · have z := pt_truth h.p he
    rw [c.K] at z
    exact z
  · try dsimp only at h'
    split at h'
    · rename_i y hy
      have r2 := r'.dat hy
      obtain ⟨b, h1, h2⟩ := tru_at (R := fun b => R b ρ') (show At G.W H' _ v y from r2.head) h'
      exact ⟨b, h1, q _ _ _ r2.drop h2⟩
    · exact False.elim h'
/-! ### str(x) -/
def rStrO (cs : List Nat) (sp : PSp) (ra : RE) : RE := fun ρ R e => ra ρ (fun s ρ' => match s.dat with
  | some (.int i) => (i.natAbs.log2 < 1920 ∧ (Str.ofString (toString i)).length ≤ sizeLine) ∧ R (.d (.str (Str.ofString (toString i)))) ρ'
  | some (.ins c a ns xs) => c ∈ cs ∧ sp [.d (.ins c a ns xs)] (fun s _ => ∃ z, s = .d (.str z) ∧ R (.d (.str z)) ρ') (fun _ => False)
  | _ => False) e
def rStr2 (G : Gw) (cs : List Nat) (sp : Sp) : List V → Hp → VK → Prop := fun xs H Q => (∃ i : Int, xs = [.int i] ∧ i.natAbs.log2 < 1920 ∧ Q (.str (toString i)) H) ∨ ∃ c ∈ cs, rStrI (G.W.CA c) sp xs H Q
theorem de_strO {cs : List Nat} (c : Cn G E X (k + 2) gq) (T : Bn X.mg) (hs : ∀ c ∈ cs, PySem.W.findIn G.W.K (.ref (G.W.CA c)) "__str__" = some (some (.ref f)) ∧ PySem.W.isFn G.W.K (.ref f) = true) (F : FnOk X.prog X.w X.K X.mg X.base (L2N.CX X.prog X.w) k f fd ["self"] (toSp G 1 sp)) (hb : Binds X.K fd ["self"] []) (h : DE G E X a ta ra) (hg : Gl X "str" := by rfl)
    (he : starEach [a] X.env = (false, eval a X.env) :: starEach [] X.env := by rfl) (hpl : (backTo pos (starEach [] X.env)).any (·.1) = false := by rfl) :
    DE G E X (.Call (.Name "str" p) [a] [] pos) (tCB (rStr2 G cs (toSp G 1 sp)) (tCons ta tNil)) (rStrO cs sp ra) := by
  refine ⟨pe_callTy (T := "str") (r := rStr2 G cs (toSp G 1 sp)) ?_ hg T.str (by decide +kernel) (pa_cons h.p pa_nil he) (by decide) (by decide) he hpl, fun σ H ρ Γ Q R e re hr q o => h.s σ H ρ Γ _ _ e re hr (fun v s ρ' H' r' h' => ?_) o⟩
  · intro pins s σ H xs us Q I r hh
    rcases hh with hh | ⟨c', hc', hh⟩
    · exact call_str_int pins s σ H xs us Q I r hh
    · exact call_strI (by rw [c.K]; exact (hs c' hc').1) (by rw [c.K]; exact (hs c' hc').2) F c.room hb pins s σ H xs us Q I r hh
  · try dsimp only at h'
    split at h'
    · rename_i i hi
      have r2 := r'.dat hi
      have z : At G.W H' _ v (.int i) := r2.head
      cases z
      exact .inl ⟨i, rfl, h'.1.1, q _ _ _ _ (r2.drop.data (.str _ ⟨h'.1.2, ok_ofString _⟩)) h'.2⟩
    · rename_i c' a' ns xs hx
      have r2 := r'.dat hx
      have z : At G.W H' _ v (.ins c' a' ns xs) := r2.head
      have hold2 := r2.hold.perm (perm_mid _ _ _)
      cases z with
      | ins g1 g2 g3 g4 =>
        refine .inr ⟨c', h'.1, _, _, _, rfl, g1, ?_⟩
        refine ⟨[.d (.ins c' _ ns xs)], slots σ ρ' ++ Γ, fun s _ => ∃ z, s = .d (.str z) ∧ R (.d (.str z)) ρ', fun _ => False, rfl, rfl, hold2, h'.2, fun v2 s2 B H2 h2 hR => ?_, fun _ _ _ _ _ z => z.elim⟩
        obtain ⟨z, rfl, hR⟩ := hR
        have r3 := slots_out r2.drop h2
        have zz : At G.W H2 _ v2 (.str z) := r3.head
        cases zz
        exact ⟨z, rfl, q _ _ _ _ r3 hR⟩
    · exact False.elim h'
end
end QL
set_option Elab.async false
set_option linter.all false
set_option maxRecDepth 100000
set_option maxHeartbeats 4000000
namespace QL
open PySem L2
open PySem.W (Frag)
/-! ### fields of what is being made -/
def rFldV (cs : List Nat) (i : Nat) (f : Str) : RE := fun ρ R _ => match ρ[i]? with
  | some (some (.m _ (.obj c ns xs))) => c ∈ cs ∧ optP (getG ns xs f) fun d => R (.d d) ρ
  | some (some (.d (.ins c _ ns xs))) => c ∈ cs ∧ optP (getG ns xs f) fun d => R (.d d) ρ
  | _ => False
section
variable {G : Gw} {E : XK} {X : Cx} {k : Nat} {gq : Bool} {a b : Expr} {es : List Expr} {ta tb : TE} {ra rb : RE} {pos p p2 : Pos}
theorem de_fldV {cs : List Nat} {f x : Str} (c : Cn G E X k gq) (i : Nat) (hf : FldOk G cs f) (hN : X.N[i]? = some x := by rfl) (hv : Vis X.env.scope x := by first | exact Or.inl rfl | exact Or.inr (Or.inl rfl) | exact Or.inr (Or.inr rfl)) (hd : (x == ("__debug__" : Str)) = false := by decide) (hcd : (x == ("__classdict__" : Str)) = false := by decide)
    (hb : attributeBase (.Name x p) f X.env (eval (.Name x p) X.env) = eval (.Name x p) X.env := by rfl) : DE G E X (.Attribute (.Name x p) f pos) (tFld G.W.K (tVar i) f) (rFldV cs i f) := by
  refine ⟨?_, fun σ H ρ Γ Q R e re hr q o => ?_⟩
  · have z := pe_fld (pos := pos) (pe_var (pos := p) hN hv hd hcd) hb
    rw [c.K] at z
    exact z
  · unfold rFldV at hr
    split at hr
    · rename_i a0 c0 ns xs hm
      obtain ⟨hc, hr⟩ := hr
      obtain ⟨d, hd2, hr⟩ := opt_get hr
      obtain ⟨hv1, dx, vs, g1, g2, g4⟩ := re.mget hm
      obtain ⟨g5, g6⟩ := hf c0 hc
      obtain ⟨w, g7, g8⟩ := (getG_at f g4).1 d hd2
      exact ⟨_, hv1, _, _, _, _, w, rfl, g1, g5, g6, by rw [lookup_zip]; exact g7, q _ _ _ _ (re.data g8) hr⟩
    · rename_i c0 a0 ns xs hm
      obtain ⟨hc, hr⟩ := hr
      obtain ⟨d, hd2, hr⟩ := opt_get hr
      obtain ⟨v, hv1, r2⟩ := re.read hm
      have z : At G.W H _ v (.ins c0 a0 ns xs) := r2.head
      cases z with
      | ins g1 g2 g3 g4 =>
        obtain ⟨g5, g6⟩ := hf c0 hc
        obtain ⟨w, g7, g8⟩ := (getG_at f g4).1 d hd2
        refine ⟨_, hv1, _, _, _, _, w, rfl, g1, g5, g6, by rw [lookup_zip]; exact g7, q _ _ _ _ (re.data ?_) hr⟩
        exact At.step (step_perm fun b hb => by rw [owns_cons]; exact hb) g8
    · exact False.elim hr
/-- self.f = e, self of one of some classes -/
def sFsetC (i : Nat) (cs : List Nat) (f : Str) (r : RE) : RS := fun d ρ => r ρ (fun s ρ1 => match ρ1[i]?, s.dat with
  | some (some (.m a (.obj c ns xs))), some y => (c ∈ cs ∧ ns.length < 1000 ∧ f ∉ ns) ∧ d.nx (ρ1.set i (some (.m a (.obj c (ns ++ [f]) (xs ++ [y])))))
  | _, _ => False) d.ex
theorem ds_fsetC {cs : List Nat} (c : Cn G E X k gq) (i : Nat) {x f : Str} (hf : FldOk G cs f) (hv : DE G E X a ta ra) (hN : X.N[i]? = some x := by rfl) (hvis : Vis X.env.scope x := by first | exact Or.inl rfl | exact Or.inr (Or.inl rfl) | exact Or.inr (Or.inr rfl)) (hd : (x == ("__debug__" : Str)) = false := by decide) (hcd : (x == ("__classdict__" : Str)) = false := by decide)
    (hs : swapsWith a (some (.Attribute (.Name x p) f p2)) pos.line X.env = pure false := by rfl) : DS G E X (.Assign [.Attribute (.Name x p) f p2] a pos) (sFld G.W.K (tVar i) ta f) (sFsetC i cs f ra) := by
  refine ⟨?_, fun σ H ρ Γ D d re hr o => hv.s σ H ρ Γ _ _ d.ex re hr (fun v s ρ1 H1 r1 h1 => ?_) o.ex⟩
  · have z := ps_fld (pos := pos) (pe_var (pos := p) hN hvis hd hcd) hv.p hs
    rw [c.K] at z
    exact z
  · try dsimp only at h1
    split at h1
    · rename_i a0 c0 ns xs y hm hy
      obtain ⟨⟨hc, h2, h3⟩, h1⟩ := h1
      have r2 := r1.dat hy
      obtain ⟨hv1, dx, vs1, g1, g0, g2⟩ := r2.mget hm
      obtain ⟨g5, g6⟩ := hf c0 hc
      have zy : At G.W H1 (owns (slots σ ρ1 ++ (v, S.d y) :: Γ)) v y := At.step (step_perm fun b hb => (owns_perm (perm_mid _ _ _)).mem_iff.mp hb) (show At G.W H1 _ v y from r2.head)
      refine ⟨_, hv1, a0, _, dx, _, rfl, g1, g5, g6, by rw [List.length_zip]; omega, o.nx _ _ _ ?_ h1⟩
      rw [putF_new g0 h3]
      refine (r2.mset (m' := .obj c0 (ns ++ [f]) (xs ++ [y])) hm ins_nc fun O ha ho => ?_).drop
      exact ⟨dx, _, upd_same, by rw [List.length_append, List.length_append, g0]; rfl, AtL.step (upd_step ha) (AtL.step (step_perm ho) (g2.app (.cons zy .nil)))⟩
    · exact False.elim h1
end
end QL
set_option Elab.async false
set_option linter.all false
set_option maxRecDepth 100000
set_option maxHeartbeats 4000000
namespace QL
open PySem L2
/-! ### plain facts of names -/
def lets : Str := "abcdefghijklmnopqrstuvwxyz"
def sgns : Str := "abcdefghijklmnopqrstuvwxyz0123456789"
def inS (z : Str) (c : Nat) : Bool := decide (c ∈ z.cps.toList)
/-- whether a text is a name -/
def nameS (z : Str) : Bool := decide (1 ≤ z.length) && decide (z.length ≤ 8) && (z.cps.toList.head?.any (inS lets)) && z.cps.toList.all (inS sgns)
theorem sgns_small : ∀ c ∈ sgns.cps.toList, c < 0x110000 := by decide +kernel
theorem name_ok {z : Str} (h : nameS z = true) : PyData.strOk z = true ∧ 1 ≤ z.length ∧ z.length ≤ 8 := by
  unfold nameS at h
  simp only [Bool.and_eq_true, decide_eq_true_eq] at h
  obtain ⟨⟨⟨h1, h2⟩, _⟩, h4⟩ := h
  refine ⟨?_, h1, h2⟩
  unfold PyData.strOk
  rw [← Array.all_toList, List.all_eq_true]
  intro c hc
  have := List.all_eq_true.mp h4 c hc
  exact decide_eq_true (sgns_small c (of_decide_eq_true this))
def sg (c : Nat) : Str := ⟨#[c]⟩
theorem fold_sg : ∀ (l : List Nat) (a : Array Nat), ((l.map sg).foldl (fun acc p => acc ++ ("" : Str).cps ++ p.cps) a).toList = a.toList ++ l
  | [], a => by simp
  | c :: l, a => by
    rw [List.map_cons, List.foldl_cons, fold_sg l]
    have e : (("" : Str).cps).toList = [] := by decide
    simp [sg, e]
theorem join_sg (l : List Nat) : (Txt.join ("" : Str) (l.map sg)).cps.toList = l := by
  unfold Txt.join Builtin.Str.glued
  cases l with
  | nil => rfl
  | cons c l =>
    have z := fold_sg l #[c]
    simpa [sg] using z
theorem cps_append (x y : Str) : (x ++ y).cps.toList = x.cps.toList ++ y.cps.toList := by
  show (x.cps ++ y.cps).toList = _
  simp
theorem len_cps (x : Str) : x.length = x.cps.toList.length := (Array.length_toList (xs := x.cps)).symm
theorem lets_sgns : ∀ c ∈ lets.cps.toList, inS sgns c = true := by decide +kernel
/-- a letter, and signs behind it -/
theorem name_of {z : Str} {c : Nat} {cs : List Nat} (e : z.cps.toList = c :: cs) (hc : c ∈ lets.cps.toList) (hs : ∀ d ∈ cs, inS sgns d = true) (hl : cs.length ≤ 7) : nameS z = true := by
  have h1 : z.length = cs.length + 1 := by rw [len_cps, e]; rfl
  unfold nameS
  simp only [Bool.and_eq_true, decide_eq_true_eq]
  refine ⟨⟨⟨by omega, by omega⟩, ?_⟩, ?_⟩
  · rw [e]
    exact decide_eq_true hc
  · rw [e, List.all_cons, lets_sgns c hc, Bool.true_and]
    exact List.all_eq_true.mpr hs
theorem name_to {z : Str} (h : nameS z = true) : ∃ c cs, z.cps.toList = c :: cs ∧ c ∈ lets.cps.toList ∧ (∀ d ∈ cs, inS sgns d = true) ∧ cs.length ≤ 7 := by
  have hl := name_ok h
  unfold nameS at h
  simp only [Bool.and_eq_true, decide_eq_true_eq] at h
  obtain ⟨⟨⟨_, _⟩, h3⟩, h4⟩ := h
  cases e : z.cps.toList with
  | nil =>
    rw [e] at h3
    cases h3
  | cons c cs =>
    rw [e] at h3 h4
    refine ⟨c, cs, rfl, of_decide_eq_true h3, fun d hd => List.all_eq_true.mp h4 d (List.mem_cons_of_mem _ hd), ?_⟩
    have := len_cps z
    rw [e, List.length_cons] at this
    omega
theorem Str.ext {x y : Str} (h : x.cps.toList = y.cps.toList) : x = y := by
  obtain ⟨x⟩ := x
  obtain ⟨y⟩ := y
  congr 1
  exact Array.toList_inj.mp h
def words : List Str := ["now", "strict", "before", "after", "time", "value", "any", "at", "on", "apart"]
theorem words_names : ∀ z ∈ words, nameS z = true := by decide +kernel
theorem nodup_le {α : Type} [DecidableEq α] : ∀ {l m : List α}, l.Nodup → (∀ x ∈ l, x ∈ m) → l.length ≤ m.length
  | [], _, _, _ => Nat.zero_le _
  | a :: l, m, nd, sub => by
    obtain ⟨na, nl⟩ := List.nodup_cons.mp nd
    have ha : a ∈ m := sub a (List.mem_cons_self ..)
    have ih := nodup_le (m := m.erase a) nl fun x hx => (List.mem_erase_of_ne (show x ≠ a from fun e => na (by rw [← e]; exact hx))).mpr (sub x (List.mem_cons_of_mem _ hx))
    rw [List.length_erase_of_mem ha] at ih
    have : 0 < m.length := List.length_pos_of_mem ha
    rw [List.length_cons]
    omega
theorem some_new {α : Type} [DecidableEq α] {l m : List α} (nd : l.Nodup) (lt : m.length < l.length) : ∃ x ∈ l, x ∉ m := by
  refine Classical.byContradiction fun h => ?_
  have := nodup_le (m := m) nd fun x hx => Classical.byContradiction fun g => h ⟨x, hx, g⟩
  omega
def dig (j : Nat) : Str := Str.ofString (toString (j : Int))
theorem dig_cps : ∀ j : Nat, j < 10 → (dig j).cps.toList = [48 + j] := by decide +kernel
theorem dig_sg : ∀ j : Nat, j < 10 → inS sgns (48 + j) = true := by decide +kernel
def cut6 (z : Str) : Str := cutS z none (some 6)
theorem cut6_cps (z : Str) : (cut6 z).cps.toList = z.cps.toList.take 6 := by
  unfold cut6 cutS
  have e1 : HT.sIx z.length 0 none = 0 := rfl
  rw [e1]
  simp only [List.drop_zero, Nat.sub_zero]
  have e2 : HT.sIx z.length z.length (some 6) = min z.length 6 := by
    unfold HT.sIx
    simp
    omega
  rw [e2]
  have hl := len_cps z
  by_cases h : z.length ≤ 6
  · rw [Nat.min_eq_left h, hl, List.take_length, List.take_of_length_le (by omega)]
  · rw [Nat.min_eq_right (by omega)]
def spares (z : Str) (m : Nat) : List Str := z :: (List.range m).map fun j => cut6 z ++ dig j
theorem spare_name {z : Str} (h : nameS z = true) {j : Nat} (hj : j < 10) : nameS (cut6 z ++ dig j) = true := by
  obtain ⟨c, cs, e, hc, hs, hl⟩ := name_to h
  refine name_of (c := c) (cs := cs.take 5 ++ [48 + j]) ?_ hc (fun d hd => ?_) ?_
  · rw [cps_append, cut6_cps, dig_cps j hj, e]
    rfl
  · rcases List.mem_append.mp hd with q | q
    · exact hs d (List.mem_of_mem_take q)
    · rw [List.mem_singleton.mp q]
      exact dig_sg j hj
  · rw [List.length_append, List.length_take]
    show min 5 cs.length + 1 ≤ 7
    omega
theorem spares_names {z : Str} (h : nameS z = true) {m : Nat} (hm : m ≤ 10) : ∀ y ∈ spares z m, nameS y = true := by
  intro y hy
  rcases List.mem_cons.mp hy with rfl | hy
  · exact h
  · obtain ⟨j, hj, rfl⟩ := List.mem_map.mp hy
    exact spare_name h (by have := List.mem_range.mp hj; omega)
theorem spares_new {z : Str} {m : Nat} (hm : m ≤ 10) {found : List Str} (hl : found.length < m) : ∃ y ∈ spares z m, y ∉ found := by
  have nd : ((List.range m).map fun j => cut6 z ++ dig j).Nodup := by
    refine List.Pairwise.map _ (fun i j (h : i ≠ j ∧ i < m ∧ j < m) e => h.1 ?_) ?_ (R := fun i j => i ≠ j ∧ i < m ∧ j < m)
    · have e' : (cut6 z ++ dig i).cps.toList = (cut6 z ++ dig j).cps.toList := by rw [e]
      rw [cps_append, cps_append, dig_cps i (by omega), dig_cps j (by omega)] at e'
      have := List.append_cancel_left e'
      injection this with this
      omega
    · exact List.Pairwise.imp_of_mem (fun {a b} ha hb h => ⟨h, List.mem_range.mp ha, List.mem_range.mp hb⟩) List.nodup_range
  obtain ⟨x, hx, hn⟩ := some_new nd (m := found) (by rw [List.length_map, List.length_range]; exact hl)
  exact ⟨x, List.mem_cons_of_mem _ hx, hn⟩
theorem name_okS {z : Str} (h : nameS z = true) : okS z := ⟨by have := (name_ok h).2.2; rw [sizeLine_eq]; omega, (name_ok h).1⟩
end QL
set_option Elab.async false
set_option linter.all false
set_option maxRecDepth 100000
set_option maxHeartbeats 4000000
namespace QL
open PySem L2
open PySem.W (Frag)
abbrev RowD := Str × Int × Int
def keyOf (r : RowD) : List Key := [.inr r.1, .inl r.2.1]
def rowD (r : RowD) : D := .tup [.str r.1, .int r.2.1, .int r.2.2]
def plcD (r : RowD) : D := .tup [.str r.1, .int r.2.1]
def rowsD (rs : List RowD) : List D := rs.map rowD
def plcsD (rs : List RowD) : List D := rs.map plcD
/-- the values that rows are drawn with -/
def vals : List Int := [-3, -2, -1, 0, 1, 2, 3, 10 ^ 25, -(10 ^ 25), 7]
theorem small_vals : ∀ d : Nat, d < 7 → ((d : Int) - 3) ∈ vals := by decide
structure Drawn (zs : List Str) (rows : List RowD) : Prop where
  nm : ∀ r ∈ rows, r.1 ∈ zs
  nd : (rows.map keyOf).Nodup
  tm : ∀ r ∈ rows, -10 ≤ r.2.1 ∧ r.2.1 ≤ 20
  vl : ∀ r ∈ rows, r.2.2 ∈ vals
theorem okP_of {d : D} (h1 : plD d = true) (h2 : (toP d).depth ≤ 64) : okP d := ⟨h1, h2⟩
theorem depth_plc (r : RowD) : (toP (plcD r)).depth = 1 := by simp [plcD, toP, toPs, PyData.depth, PyData.depthAll]
theorem depth_row (r : RowD) : (toP (rowD r)).depth = 1 := by simp [rowD, toP, toPs, PyData.depth, PyData.depthAll]
theorem okP_plc (r : RowD) : okP (plcD r) := ⟨rfl, by rw [depth_plc]; decide⟩
theorem okP_row (r : RowD) : okP (rowD r) := ⟨rfl, by rw [depth_row]; decide⟩
theorem pl_map {α : Type} {f : α → D} (h : ∀ a, plD (f a) = true) : ∀ l : List α, plDs (l.map f) = true
  | [] => rfl
  | a :: l => by
    show (plD (f a) && plDs (l.map f)) = true
    rw [h a, pl_map h l]; rfl
theorem depth_map {α : Type} {f : α → D} {n : Nat} (h : ∀ a, (toP (f a)).depth ≤ n) : ∀ l : List α, PyData.depthAll (toPs (l.map f)) ≤ n
  | [] => by simp [toPs, PyData.depthAll]
  | a :: l => by
    show PyData.depthAll (toP (f a) :: toPs (l.map f)) ≤ n
    rw [PyData.depthAll]
    have := h a
    have := depth_map h l
    omega
theorem okP_lmap {α : Type} {f : α → D} {n : Nat} (h1 : ∀ a, plD (f a) = true) (h2 : ∀ a, (toP (f a)).depth ≤ n) (hn : n < 64) (l : List α) : okP (.lst (l.map f)) := by
  refine ⟨pl_map h1 l, ?_⟩
  show (PyData.list (toPs (l.map f))).depth ≤ 64
  have := depth_map h2 l
  rw [PyData.depth]; omega
theorem okP_tmap {α : Type} {f : α → D} {n : Nat} (h1 : ∀ a, plD (f a) = true) (h2 : ∀ a, (toP (f a)).depth ≤ n) (hn : n < 64) (l : List α) : okP (.tup (l.map f)) := by
  refine ⟨pl_map h1 l, ?_⟩
  show (PyData.tuple (toPs (l.map f))).depth ≤ 64
  have := depth_map h2 l
  rw [PyData.depth]; omega
theorem eqD_plc (a b : RowD) : eqD (plcD a) (plcD b) = decide (keyOf a = keyOf b) := by
  show (a.1 == b.1 && (a.2.1 == b.2.1 && true)) = _
  rw [Bool.eq_iff_iff]
  simp [keyOf]
def hasKey (r : RowD) (rs : List RowD) : Bool := rs.any fun a => decide (keyOf a = keyOf r)
theorem hasKey_iff {r : RowD} {rs : List RowD} : hasKey r rs = true ↔ keyOf r ∈ rs.map keyOf := by
  unfold hasKey
  rw [List.any_eq_true, List.mem_map]
  constructor
  · rintro ⟨a, h1, h2⟩
    exact ⟨a, h1, of_decide_eq_true h2⟩
  · rintro ⟨a, h1, h2⟩
    exact ⟨a, h1, decide_eq_true h2⟩
theorem any_plc (r : RowD) : ∀ rs : List RowD, ((plcsD rs).any fun w => eqD w (plcD r)) = hasKey r rs
  | [] => rfl
  | a :: rs => by
    show (eqD (plcD a) (plcD r) || (plcsD rs).any fun w => eqD w (plcD r)) = _
    rw [any_plc r rs, eqD_plc]
    rfl
end QL
set_option Elab.async false
set_option linter.all false
set_option maxRecDepth 100000
set_option maxHeartbeats 4000000
namespace QL
open PySem L2
open PySem.W (Frag)
theorem sm100 {n : Nat} (h : n ≤ 100) : n ≤ sizeLine := by
  rw [sizeLine_eq]
  omega
/-- everything but what stands at p stays -/
def But (p : Addr) (H H' : Hp) : Prop := ∀ b o, b ≠ p → H b = some o → H' b = some o
theorem But.trans {p : Addr} {H H1 H2 : Hp} (a : But p H H1) (b : But p H1 H2) : But p H H2 := fun c o n h => b c o n (a c o n h)
theorem But.upd {p : Addr} {H : Hp} {o : HO} : But p H (upd H p o) := fun b x n e => by
  rw [upd_ne n]
  exact e
section
variable {P : Program} {w : World} {K : Frag} {mg : Str → Option Value} {base : Heap}
abbrev sNum : Stmt := top 45
theorem scNum : FnScope ["_law_script", "_law_k", "_law_made", "_law_cell"] ["_law_script", "_law_k"] (defScope sNum) := ⟨rfl, rfl, rfl, by decide +kernel, rfl, by decide +kernel, by decide +kernel⟩
def spNum (K : Frag) : Sp := fun vs H Q _ => ∃ (a : Addr) (ns : List Int) (k : Nat), vs = [.ref a, .int k] ∧ SqL K H a (ns.map V.int) ∧ ns.length ≤ 63 ∧ k < 100 ∧ ∀ v H', Same H H' → Q (.int v) H'
theorem ok_num {f : Addr} {fd : FuncData} {k : Nat} (F : Fun K "_law_number" "_law_number" sNum f fd) (T : Bn mg) : FnOk P w K mg base CX0 (k + 1) f fd ["_law_script", "_law_k"] (spNum K) := by
  refine F.ok scNum (fun vs H Q E h => ?_) (fun cdv A outer s H vs Q E hr h => ?_)
  · obtain ⟨a, ns, k, rfl, _⟩ := h
    rfl
  · obtain ⟨a, ns, j, rfl, hS, hn, hk, q⟩ := h
    refine ⟨_, pss_cons (ps_if (pt_cmpR op_lt (pv 1) (pe_callB call_len (by rfl) T.len (by decide +kernel) (pa_cons (pv 0) pa_nil)) (nomark _)) (pss_one (ps_ret (pe_ix ix_list (pv 0) (pv 1) (fun _ _ => rfl)))) pss_nil)
      (pss_cons (ps_set (i := 2) scNum.nd rfl (.inl rfl) (pe_op op_mul (pe_op op_mul pe_int (pe_op op_add (pv 1) pe_int)) (pe_op op_add (pv 1) pe_int)))
      (pss_cons (ps_for PassesOwn.never rfl (pi_list (pe_slice sl_list (pv 0) po_none (po_some pe_int))) (pg_name (i := 3) scNum.nd rfl (.inl rfl))
        (pss_one (ps_set (i := 2) scNum.nd rfl (.inl rfl) (pe_op op_mod (pe_callTy call_int1 (by rfl) T.int (by decide +kernel) (pa_cons (pe_op op_add (pe_op op_add (pe_op op_mul (pv 2) pe_int) (pv 3)) (pv 1)) pa_nil)) pe_int))))
      (pss_one (ps_ret (pv 2))))), ?_⟩
    refine ⟨_, rfl, _, rfl, .ref a, ns.length, rfl, .inl ⟨_, hS, by rw [List.length_map]⟩, _, _, rfl, rfl, _, rfl, ?_⟩
    by_cases lt : (j : Int) < (ns.length : Nat)
    · rw [decide_eq_true lt]
      have lt' : j < ns.length := by omega
      refine iteT ⟨_, rfl, _, rfl, a, _, _, .int ns[j], rfl, rfl, hS, atI_nat ?_, q _ _ (.refl _)⟩
      rw [List.getElem?_map, List.getElem?_eq_getElem lt']
      rfl
    · rw [decide_eq_false lt]
      refine iteF ⟨_, rfl, _, _, rfl, rfl, _, _, rfl, rfl, ?_, _, rfl, _, _, rfl, rfl, _, _, rfl, rfl, ?_, ?_⟩
      · exact .inl ⟨by decide, by decide⟩
      · exact .inr ⟨by omega, by omega⟩
      refine ⟨_, rfl, 5, rfl, a, _, rfl, hS, fun c nc => ⟨c, rfl, ⟨_, SqL.of upd_same⟩, ?_⟩⟩
      have s3 := same_new (o := .lst (cutV (ns.map V.int) none (some 5))) nc
      have isInt : ∀ x ∈ cutV (ns.map V.int) none (some 5), ∃ z, x = V.int z := fun x hx => by
        have h1 : x ∈ ns.map V.int := List.mem_of_mem_drop (List.mem_of_mem_take hx)
        obtain ⟨z, _, e⟩ := List.mem_map.mp h1
        exact ⟨z, e.symm⟩
      refine for_it (walk_list (K := K) (a := c) (xs := cutV (ns.map V.int) none (some 5))) (fun i σ H2 => ∃ (m : Int) (x3 : Option V), σ = [some (.ref a), some (.int j), some (.int m), x3] ∧ H2 = upd H c (.lst (cutV (ns.map V.int) none (some 5))))
        ⟨_, _, rfl, rfl⟩ (fun i σ H2 _ ⟨_, _, _, e⟩ => e ▸ SqL.of upd_same) ?_ ?_
      · rintro i x σ H2 H3 hi ⟨m, x3, rfl, rfl⟩ ⟨rfl, hx⟩
        obtain ⟨z, rfl⟩ := isInt x (List.mem_of_getElem? hx)
        exact ⟨_, rfl, _, _, rfl, rfl, .inr ⟨by decide, by decide⟩, _, rfl, _, _, rfl, rfl, _, rfl, _, _, rfl, rfl, .inl ⟨_, rfl, _, _, rfl, rfl, (by show (0 : Int) < 2147483423; decide), _, _, rfl, rfl⟩⟩
      · rintro σ H2 ⟨m, x3, rfl, rfl⟩
        exact ⟨_, rfl, q _ _ s3⟩
abbrev sSrc : Stmt := top 46
theorem scSrc : FnScope ["_law_cell"] ["_law_cell"] (defScope sSrc) := ⟨rfl, rfl, rfl, by decide +kernel, rfl, by decide +kernel, by decide +kernel⟩
def spSrc : Sp := fun vs H Q _ => ∃ c : Int, vs = [.int c] ∧ ∀ p H', Same H H' → H p = none → SrcAt 0 H' p → Q (.ref p) H'
theorem ok_src {f : Addr} {fd : FuncData} {k : Nat} (F : Fun K "_law_source" "_law_source" sSrc f fd) (T : Bn mg) : FnOk P w K mg base CX0 (k + 1) f fd ["_law_cell"] spSrc := by
  refine F.ok scSrc (fun vs H Q E h => ?_) (fun cdv A outer s H vs Q E hr h => ?_)
  · obtain ⟨c, rfl, _⟩ := h
    rfl
  · obtain ⟨c, rfl, q⟩ := h
    refine ⟨_, pss_one (ps_ret (pe_lst (pa_cons (pe_ifExp (PW.pt (pw_or (pt_cmpR op_lt (pv 0) pe_int (nomark _)) (pw_or1 (pt_cmpR op_ge (pv 0) (pe_op op_pow pe_int pe_int) (nomark _))))) (pe_callB call_abs (by rfl) T.abS (by decide +kernel) (pa_cons (pv 0) pa_nil)) pe_int)
      (pa_cons (pe_op op_mod (pe_callTy call_int1 (by rfl) T.int (by decide +kernel) (pa_cons (pv 0) pa_nil)) pe_int) (pa_cons pe_int pa_nil))))), ?_⟩
    have fin : ∀ a : Int, 0 ≤ a → ∀ p, H p = none → Q (.ref p) (upd H p (.lst [.int a, .int (c % 2147483423), .int 0])) := fun a ha p np =>
      q p _ (same_new np) np ⟨a, _, 0, upd_same, ha, Int.emod_nonneg _ (by decide), Int.emod_lt_of_pos _ (by decide), Int.le_refl _, Int.le_refl _⟩
    have rest : ∀ a : Int, 0 ≤ a → tCons (tOp (rI (fun _ j => 0 < j) fun i j => V.int (i % j)) (tCB (fun xs H Q => (∃ i, xs = [V.int i] ∧ Q (V.int i) H) ∨ ∃ k, xs = [V.bl k] ∧ Q (V.int (if k = true then 1 else 0)) H) (tCons (tVar 0) tNil)) (tC (.int 2147483423))) (tCons (tC (.int 0)) tNil) (start ["_law_cell"] [.int c]) H
        fun xs H1 => (V.int a :: xs).length ≤ sizeLine ∧ ∀ p, H1 p = none → Q (.ref p) (upd H1 p (.lst (V.int a :: xs))) := fun a ha =>
      ⟨_, rfl, .inl ⟨c, rfl, _, _, rfl, rfl, (by show (0 : Int) < 2147483423; decide), sm100 (Nat.le_of_ble_eq_true rfl), fin a ha⟩⟩
    have ab : 0 ≤ (if c < 0 then -c else c) := by
      split <;> omega
    refine ⟨_, rfl, _, _, rfl, rfl, _, rfl, ?_⟩
    by_cases h : c < 0
    · rw [decide_eq_true h]
      exact iteT (iteT ⟨_, rfl, c, rfl, rest _ ab⟩)
    · rw [decide_eq_false h]
      refine iteF ⟨_, rfl, 10, 18, rfl, rfl, ⟨by decide, by decide, by decide⟩, _, _, rfl, rfl, _, rfl, ?_⟩
      by_cases g : (10 : Int) ^ (18 : Int).toNat ≤ c
      · rw [decide_eq_true g]
        exact iteT ⟨_, rfl, c, rfl, rest _ ab⟩
      · rw [decide_eq_false g]
        exact iteF (rest 0 (Int.le_refl _))
abbrev sPick : Stmt := top 47
theorem scPick : FnScope ["_law_source_here", "_law_many", "_law_digit", "_law_turn", "_law_mixed"] ["_law_source_here", "_law_many"] (defScope sPick) := ⟨rfl, rfl, rfl, by decide +kernel, rfl, by decide +kernel, by decide +kernel⟩
def spPick : Sp := fun vs H Q _ => ∃ (p : Addr) (m n : Nat), vs = [.ref p, .int m] ∧ SrcAt n H p ∧ 1 ≤ m ∧ m < 1000 ∧ n < 100000 ∧ ∀ (d : Nat) H', d < m → But p H H' → SrcAt (n + 1) H' p → Q (.int d) H'
theorem mod_to {z : Int} {m : Nat} (hm : 1 ≤ m) : ∃ d : Nat, d < m ∧ z % (m : Int) = (d : Int) := by
  have h1 : 0 ≤ z % (m : Int) := Int.emod_nonneg _ (by omega)
  have h2 : z % (m : Int) < (m : Int) := Int.emod_lt_of_pos _ (by omega)
  exact ⟨(z % (m : Int)).toNat, by omega, by omega⟩
theorem ok_pick {f : Addr} {fd : FuncData} {k : Nat} (F : Fun K "_law_pick" "_law_pick" sPick f fd) (T : Bn mg) : FnOk P w K mg base CX0 (k + 1) f fd ["_law_source_here", "_law_many"] spPick := by
  refine F.ok scPick (fun vs H Q E h => ?_) (fun cdv A outer s H vs Q E hr h => ?_)
  · obtain ⟨p, m, n, rfl, _⟩ := h
    rfl
  · obtain ⟨p, m, n, rfl, ⟨a, b, c, hp, a0, b0, b1, c0, c1⟩, m1, m2, n1, q⟩ := h
    refine ⟨_, pss_cons (ps_asg (pe_op op_add (pe_ix ix_list (pv 0) pe_int (fun _ _ => rfl)) pe_int) (pg_sub (pv 0) pe_int set_list))
      (pss_cons (ps_if (pt_cmpR op_gt (pe_ix ix_list (pv 0) pe_int (fun _ _ => rfl)) pe_int (nomark _))
        (pss_cons (ps_set (i := 2) scPick.nd rfl (.inl rfl) (pe_op op_mod (pe_callTy call_int1 (by rfl) T.int (by decide +kernel) (pa_cons (pe_ix ix_list (pv 0) pe_int (fun _ _ => rfl)) pa_nil)) (pv 1)))
        (pss_cons (ps_asg (pe_op op_fdiv (pe_ix ix_list (pv 0) pe_int (fun _ _ => rfl)) (pv 1)) (pg_sub (pv 0) pe_int set_list))
        (pss_one (ps_ret (pv 2))))) pss_nil)
      (pss_cons (ps_set (i := 3) scPick.nd rfl (.inl rfl) (pe_ix ix_list (pv 0) pe_int (fun _ _ => rfl)))
      (pss_cons (ps_set (i := 4) scPick.nd rfl (.inl rfl) (pe_callTy call_int1 (by rfl) T.int (by decide +kernel) (pa_cons (pe_op op_add (pe_ix ix_list (pv 0) pe_int (fun _ _ => rfl)) (pe_op op_mul (pv 3) pe_int)) pa_nil)))
      (pss_cons (ps_asg (pe_op op_mod (pe_callTy call_int1 (by rfl) T.int (by decide +kernel) (pa_cons (pe_op op_add (pe_op op_pow (pv 4) pe_int) (pe_op op_mul pe_int (pv 3))) pa_nil)) pe_int) (pg_sub (pv 0) pe_int set_list))
      (pss_one (ps_ret (pe_op op_mod (pe_callTy call_int1 (by rfl) T.int (by decide +kernel) (pa_cons (pe_op op_fdiv (pe_ix ix_list (pv 0) pe_int (fun _ _ => rfl)) pe_int) pa_nil)) (pv 1)))))))), ?_⟩
    refine ⟨_, rfl, p, _, 2, .int c, rfl, rfl, SqL.of hp, atI_nat (j := 2) rfl, _, _, rfl, rfl, _, rfl, p, _, 2, 2, rfl, rfl, hp, rfl, ?_⟩
    have b2 : But p H (upd H p (.lst [.int a, .int b, .int (c + 1)])) := But.upd
    have h2 : upd H p (.lst [.int a, .int b, .int (c + 1)]) p = some (.lst [.int a, .int b, .int (c + 1)]) := upd_same
    refine ⟨_, rfl, p, _, 0, .int a, rfl, rfl, SqL.of h2, atI_nat (j := 0) rfl, _, _, rfl, rfl, _, rfl, ?_⟩
    by_cases ap : (0 : Int) < a
    · rw [decide_eq_true ap]
      obtain ⟨d, dm, de⟩ := mod_to (z := a) m1
      refine iteT ⟨_, rfl, p, _, 0, .int a, rfl, rfl, SqL.of h2, atI_nat (j := 0) rfl, .inl ⟨a, rfl, _, rfl, _, _, rfl, rfl, (by show (0 : Int) < (m : Nat); omega), ?_⟩⟩
      refine ⟨_, rfl, p, _, 0, .int a, rfl, rfl, SqL.of h2, atI_nat (j := 0) rfl, _, rfl, _, _, rfl, rfl, ⟨by omega, by omega⟩, _, rfl, p, _, 0, 0, rfl, rfl, h2, rfl, _, rfl, ?_⟩
      have z := q d (upd _ p (.lst [.int (a / (m : Int)), .int b, .int (c + 1)])) dm (b2.trans But.upd) ⟨_, b, c + 1, upd_same, Int.ediv_nonneg a0 (by omega), b0, b1, by omega, by omega⟩
      rw [← de] at z
      exact z
    · rw [decide_eq_false ap]
      refine iteF ⟨_, rfl, p, _, 2, .int (c + 1), rfl, rfl, SqL.of h2, atI_nat (j := 2) rfl, ?_⟩
      refine ⟨_, rfl, p, _, 1, .int b, rfl, rfl, SqL.of h2, atI_nat (j := 1) rfl, _, rfl, _, _, rfl, rfl, .inr ⟨by decide, by decide⟩, _, _, rfl, rfl, .inl ⟨_, rfl, ?_⟩⟩
      refine ⟨_, rfl, _, _, rfl, rfl, ⟨by decide, by decide, ?_⟩, _, rfl, _, _, rfl, rfl, .inl ⟨by decide, by decide⟩, _, _, rfl, rfl, .inl ⟨_, rfl, _, _, rfl, rfl, (by show (0 : Int) < 2147483423; decide), _, rfl, p, _, 1, 1, rfl, rfl, h2, rfl, ?_⟩⟩
      · omega
      obtain ⟨d, dm, de⟩ := mod_to (z := ((b + (c + 1) * 7919) ^ (3 : Int).toNat + 31 * (c + 1)) % 2147483423 / 61) m1
      refine ⟨_, rfl, p, _, 1, _, rfl, rfl, SqL.of upd_same, atI_nat (j := 1) rfl, _, _, rfl, rfl, ⟨by decide, by decide⟩, .inl ⟨_, rfl, _, rfl, _, _, rfl, rfl, (by show (0 : Int) < (m : Nat); omega), ?_⟩⟩
      have z := q d (upd _ p (.lst [.int a, .int (((b + (c + 1) * 7919) ^ (3 : Int).toNat + 31 * (c + 1)) % 2147483423), .int (c + 1)])) dm (b2.trans But.upd) ⟨a, _, c + 1, upd_same, a0, Int.emod_nonneg _ (by decide), Int.emod_lt_of_pos _ (by decide), by omega, by omega⟩
      rw [← de] at z
      exact z
end
/-! ### their promises without the heap -/
theorem Hold.src {W : Wd} {H H' : Hp} {I : List It} {v : V} {p : Addr} {n n' : Nat} (h : Hold W H ((v, .m p (.src n)) :: I)) (b : But p H H') (s : SrcAt n' H' p) : Hold W H' ((v, .m p (.src n')) :: I) := by
  have e : ∀ m, owns ((v, S.m p m) :: I) = p :: owns I := fun _ => rfl
  have nd := h.nd
  rw [e] at nd
  have nA := (List.nodup_cons.mp nd).1
  have k : ∀ b' o', b' ∉ p :: owns I → H b' = some o' → H' b' = some o' := fun b' o' hb q => b b' o' (fun z => hb (by rw [z]; exact List.mem_cons_self)) q
  refine ⟨by rw [e]; exact nd, fun q hq => ?_, tabs_step h (by rw [e]; exact k), fun b' hb o' z => ?_⟩
  · rw [e]
    rcases List.mem_cons.mp hq with rfl | hq
    · exact ⟨h.head.1, s⟩
    · have z := h.at_ q (List.mem_cons_of_mem _ hq)
      rw [e] at z
      refine z.step ⟨k, fun b hb => .inl hb⟩ fun b' x eq o' q' => ?_
      have : b' ∈ owns I := List.mem_filterMap.mpr ⟨q, hq, by obtain ⟨v', s'⟩ := q; cases eq; rfl⟩
      exact b b' o' (fun z => nA (by rw [← z]; exact this)) q'
  · rw [e] at hb
    by_cases hba : b' = p
    · subst hba
      obtain ⟨x, y, c, s1, _⟩ := s
      rw [s1] at z; cases z; exact lst_nc
    · obtain ⟨o2, e2, m2⟩ := h.own_there (by rw [e]; exact hb)
      have := b _ _ hba e2
      rw [z] at this; cases this
      exact h.nt b' (by rw [e]; exact hb) o' e2
/-- a promise that lets nothing out, among those that may -/
theorem fnToX {P : Program} {w : World} {K : Frag} {mg : Str → Option Value} {base : Heap} {k : Nat} {f : Addr} {fd : FuncData} {ps : List Str} {sp sp' : Sp} (F : FnOk P w K mg base CX0 k f fd ps sp) (h : ∀ vs H Q E, sp' vs H Q E → sp vs H Q E) : FnOk P w K mg base (L2N.CX P w) k f fd ps sp' :=
  ⟨fun vs H Q E z => F.len vs H Q E (h vs H Q E z), fun A outer s H args us vs Q E hr e0 hb r z => codeAny_mono (F.run A outer s H args us vs Q E hr e0 hb r (h vs H Q E z)) fun r s' hq => by
    cases r with
    | error e => exact (show False from hq).elim
    | ok fl => cases fl <;> exact hq⟩
def psPick : PSp := fun ss R _ => ∃ (p : Addr) (m n : Nat), ss = [.m p (.src n), .d (.int m)] ∧ 1 ≤ m ∧ m < 1000 ∧ n < 100000 ∧ ∀ d : Nat, d < m → R (.d (.int d)) [(p, .src (n + 1))]
def psSrc : PSp := fun ss R _ => ∃ c : Int, ss = [.d (.int c)] ∧ ∀ p, R (.m p (.src 0)) []
def psNum : PSp := fun ss R _ => ∃ (ns : List Int) (k : Nat), ss = [.d (.scr ns), .d (.int k)] ∧ ns.length ≤ 63 ∧ k < 100 ∧ ∀ v : Int, R (.d (.int v)) []
section
variable {P : Program} {w : World} {G : Gw} {mg : Str → Option Value} {base : Heap} {k : Nat} {f : Addr} {fd : FuncData}
theorem p_pick (F : Fun G.W.K "_law_pick" "_law_pick" sPick f fd) (T : Bn mg) : FnOk P w G.W.K mg base (L2N.CX P w) (k + 1) f fd ["_law_source_here", "_law_many"] (toSp G 2 psPick) := by
  refine fnToX (ok_pick F T) fun vs H Q E h => ?_
  obtain ⟨ss, Γ, R, e, h1, h2, h3, ⟨p, m, n, rfl, m1, m2, n1, hR⟩, h5, h6⟩ := h
  match vs, h1 with
  | [v, u], _ =>
    have hh : Hold G.W H ((v, .m p (.src n)) :: (u, .d (.int m)) :: Γ) := h3
    obtain ⟨ev, hs⟩ := hh.head
    have ev : v = .ref p := ev
    subst ev
    have hu : At G.W H _ u (.int m) := hh.tail.head
    cases hu
    refine ⟨p, m, n, rfl, hs, m1, m2, n1, fun d H' hd b s => h5 _ _ _ _ ?_ (hR d hd)⟩
    have z := (hh.src b s).sub (J := (.ref p, .m p (.src (n + 1))) :: Γ) (List.Sublist.cons_cons _ (List.sublist_cons_self _ _))
    exact z.data (.int _)
theorem p_src (F : Fun G.W.K "_law_source" "_law_source" sSrc f fd) (T : Bn mg) : FnOk P w G.W.K mg base (L2N.CX P w) (k + 1) f fd ["_law_cell"] (toSp G 1 psSrc) := by
  refine fnToX (ok_src F T) fun vs H Q E h => ?_
  obtain ⟨ss, Γ, R, e, h1, h2, h3, ⟨c, rfl, hR⟩, h5, h6⟩ := h
  match vs, h1 with
  | [v], _ =>
    have hh : Hold G.W H ((v, .d (.int c)) :: Γ) := h3
    have hu : At G.W H _ v (.int c) := hh.head
    cases hu
    refine ⟨c, rfl, fun p H' s np hs => h5 _ _ _ _ ?_ (hR p)⟩
    exact hh.tail.own np s hs fun o e => by
      obtain ⟨x, y, c, s1, _⟩ := hs
      rw [s1] at e; cases e; exact lst_nc
theorem p_num (F : Fun G.W.K "_law_number" "_law_number" sNum f fd) (T : Bn mg) : FnOk P w G.W.K mg base (L2N.CX P w) (k + 1) f fd ["_law_script", "_law_k"] (toSp G 2 psNum) := by
  refine fnToX (ok_num F T) fun vs H Q E h => ?_
  obtain ⟨ss, Γ, R, e, h1, h2, h3, ⟨ns, j, rfl, n1, k1, hR⟩, h5, h6⟩ := h
  match vs, h1 with
  | [v, u], _ =>
    have hh : Hold G.W H ((v, .d (.scr ns)) :: (u, .d (.int j)) :: Γ) := h3
    have hv : At G.W H _ v (.scr ns) := hh.head
    have hu : At G.W H _ u (.int j) := hh.tail.head
    cases hu
    cases hv with
    | scr hs => exact ⟨_, ns, j, rfl, hs.sq, n1, k1, fun v H' s => h5 _ _ _ _ ((hh.tail.tail.grow s).data (.int _)) (hR v)⟩
end
end QL
set_option Elab.async false
set_option linter.all false
set_option maxRecDepth 100000
set_option maxHeartbeats 4000000
namespace QL
open PySem L2
open PySem.W (Frag)
/-- a def of the text stands in the module under its name -/
structure DefAt (K : Frag) (mg : Str → Option Value) (x : Str) (st : Stmt) (f : Addr) (fd : FuncData) (ps : List Str) : Prop where
  F : Fun K x x st f fd
  b : Binds K fd ps []
  g : mg x = some (.ref f)
abbrev s__law_one : Stmt := top 48
abbrev n__law_one : List Str := ["_law_source_here", "_law_things"]
theorem sc__law_one : FnScope n__law_one ["_law_source_here", "_law_things"] (defScope s__law_one) := ⟨rfl, rfl, rfl, by decide +kernel, rfl, by decide +kernel, by decide +kernel⟩
def psOne : PSp := fun ss R _ => ∃ (p : Addr) (n : Nat) (x : D) (ds : List D), ss = [.m p (.src n), .d x] ∧ itD x = some ds ∧ 1 ≤ ds.length ∧ ds.length < 1000 ∧ n < 99999 ∧ ∀ d ∈ ds, R (.d d) [(p, .src (n + 1))]
section
variable {P : Program} {w : World} {G : Gw} {mg : Str → Option Value} {base : Heap} {k : Nat} {f : Addr} {fd : FuncData} {fP : Addr} {dP : FuncData}
theorem p_one (F : Fun G.W.K "_law_one" "_law_one" s__law_one f fd) (T : Bn mg) (Z__law_pick : DefAt G.W.K mg "_law_pick" sPick fP dP ["_law_source_here", "_law_many"]) : FnOk P w G.W.K mg base (L2N.CX P w) (k + 2) f fd ["_law_source_here", "_law_things"] (toSp G 2 psOne) := by
  have F__law_pick : FnOk P w G.W.K mg base (L2N.CX P w) (k + 1) fP dP ["_law_source_here", "_law_many"] (toSp G 2 psPick) := p_pick Z__law_pick.F T
  refine fn_pure F sc__law_one (by decide) fun cdv A outer s H E c => ⟨_, _, (dss_one (ds_ret (de_itemV c 1 (de_callS c 0 F__law_pick Z__law_pick.g Z__law_pick.F.kp Z__law_pick.b (da_cons (de_lenV c T 1) da_nil))))), fun ss R e hsp hl => ?_⟩
  obtain ⟨p, n, x, ds, rfl, hx, h1, h2, hn, hR⟩ := hsp
  cases x with
  | lst xs =>
    have eds : xs = ds := Option.some.inj hx
    subst eds
    refine ⟨⟨_, rfl⟩, ⟨_, rfl⟩, rfl, p, xs.length, n, rfl, h1, h2, by omega, fun d hd => ⟨_, rfl, ?_⟩⟩
    exact opt_ok (atI_nat (List.getElem?_eq_getElem hd)) (hR _ (List.getElem_mem hd))
  | tup xs =>
    have eds : xs = ds := Option.some.inj hx
    subst eds
    refine ⟨⟨_, rfl⟩, ⟨_, rfl⟩, rfl, p, xs.length, n, rfl, h1, h2, by omega, fun d hd => ⟨_, rfl, ?_⟩⟩
    exact opt_ok (atI_nat (List.getElem?_eq_getElem hd)) (hR _ (List.getElem_mem hd))
  | str z =>
    cases hx
    have el : (signs z).length = z.length := by unfold signs; rw [List.length_map, Array.length_toList]; rfl
    refine ⟨⟨_, rfl⟩, ⟨_, rfl⟩, rfl, p, z.length, n, rfl, by omega, by omega, by omega, fun d hd => ⟨_, rfl, ?_⟩⟩
    have hd2 : d < z.cps.toList.length := by rw [Array.length_toList]; exact hd
    exact opt_ok (atI_nat (List.getElem?_eq_getElem hd2)) (hR _ (List.mem_map.mpr ⟨_, List.getElem_mem hd2, rfl⟩))
  | _ => cases hx
end
end QL
set_option Elab.async false
set_option linter.all false
set_option maxRecDepth 100000
set_option maxHeartbeats 4000000
namespace QL
open PySem L2
open PySem.W (Frag)
theorem ltR {i n : Nat} (h : Nat.ble (i + 1) n = true) : i < n := Nat.le_of_ble_eq_true h
theorem ifT {b : Bool} {A B : Prop} (h : b = true) (a : A) : if b = true then A else B := by rw [if_pos h]; exact a
theorem ifF {b : Bool} {A B : Prop} (h : b = false) (a : B) : if b = true then A else B := by subst h; exact a
theorem okP_int {i : Int} : okP (.int i) := ⟨rfl, by simp [toP, PyData.depth]⟩
theorem okP_str {z : Str} : okP (.str z) := ⟨rfl, by simp [toP, PyData.depth]⟩
theorem okP_bl {b : Bool} : okP (.bl b) := ⟨rfl, by simp [toP, PyData.depth]⟩
theorem okP_non : okP .non := ⟨rfl, by simp [toP, PyData.depth]⟩
theorem eqD_int (i j : Int) : (eqD (.int i) (.int j) != false) = decide (i = j) := by
  rw [bneF]
  show (i == j) = _
  by_cases h : i = j
  · subst h; simp
  · simp [h]
theorem eqD_str (i j : Str) : eqD (.str i) (.str j) = decide (i = j) := by
  show (i == j) = _
  by_cases h : i = j
  · subst h; simp
  · rw [decide_eq_false h]
    exact beq_eq_false_iff_ne.mpr h
theorem leN {n : Nat} (h : n.ble 100000 = true) : n ≤ sizeLine := by
  have := Nat.le_of_ble_eq_true h
  rw [sizeLine_eq]; omega
abbrev s__law_tag : Stmt := top 49
abbrev n__law_tag : List Str := ["_law_source_here", "_law_small", "_law_signs", "_law_k"]
theorem sc__law_tag : FnScope n__law_tag ["_law_source_here"] (defScope s__law_tag) := ⟨rfl, rfl, rfl, by decide +kernel, rfl, by decide +kernel, by decide +kernel⟩
def psTag : PSp := fun ss R _ => ∃ (p : Addr) (n : Nat), ss = [.m p (.src n)] ∧ n < 90000 ∧ ∀ (z : Str) (n' : Nat), nameS z = true → n' ≤ n + 12 → R (.d (.str z)) [(p, .src n')]
theorem strs_sg : ∀ cs : List Nat, strsD (cs.map fun c => D.str (sg c)) = some (cs.map sg)
  | [] => rfl
  | c :: cs => by
    show (match strsD (cs.map fun c => D.str (sg c)) with
      | some zs => some (sg c :: zs)
      | none => none) = _
    rw [strs_sg cs]
    rfl
theorem sum_sg (cs : List Nat) : ((cs.map sg).map (·.length)).sum = cs.length := by
  induction cs with
  | nil => rfl
  | cons a l ih =>
    rw [List.map_cons, List.map_cons, List.sum_cons, ih, List.length_cons]
    show 1 + l.length = _
    omega
section
variable {P : Program} {w : World} {G : Gw} {mg : Str → Option Value} {base : Heap} {k : Nat} {f : Addr} {fd : FuncData} {fP fO : Addr} {dP dO : FuncData}
theorem p_tag (F : Fun G.W.K "_law_tag" "_law_tag" s__law_tag f fd) (T : Bn mg) (Z__law_pick : DefAt G.W.K mg "_law_pick" sPick fP dP ["_law_source_here", "_law_many"]) (Z__law_one : DefAt G.W.K mg "_law_one" s__law_one fO dO ["_law_source_here", "_law_things"]) : FnOk P w G.W.K mg base (L2N.CX P w) (k + 3) f fd ["_law_source_here"] (toSp G 1 psTag) := by
  have F__law_pick : FnOk P w G.W.K mg base (L2N.CX P w) (k + 2) fP dP ["_law_source_here", "_law_many"] (toSp G 2 psPick) := p_pick Z__law_pick.F T
  have F__law_one : FnOk P w G.W.K mg base (L2N.CX P w) (k + 2) fO dO ["_law_source_here", "_law_things"] (toSp G 2 psOne) := p_one Z__law_one.F T Z__law_pick
  refine fn_pure F sc__law_tag (by decide) fun cdv A outer s H E c => ⟨_, _, (dss_cons (ds_if (dt_eq c (de_callS c 0 F__law_pick Z__law_pick.g Z__law_pick.F.kp Z__law_pick.b (da_cons de_int da_nil)) de_int) (dss_one (ds_ret (de_callS c 0 F__law_one Z__law_one.g Z__law_one.F.kp Z__law_one.b (da_cons (de_lst (da_cons de_str (da_cons de_str (da_cons de_str (da_cons de_str (da_cons de_str (da_cons de_str (da_cons de_str (da_cons de_str (da_cons de_str (da_cons de_str da_nil))))))))))) da_nil)))) dss_nil)
      (dss_cons (ds_set (i := 1) de_str c.nd)
      (dss_cons (ds_setLc (i := 2) (own := [("_law_k", 3)]) c (sw_true rfl rfl rfl (by decide +kernel)) (di_range T.ran (da_cons (de_callS c 0 F__law_one Z__law_one.g Z__law_one.F.kp Z__law_one.b (da_cons (de_lst (da_cons de_int (da_cons de_int (da_cons de_int (da_cons de_int (da_cons de_int da_nil)))))) da_nil)) da_nil)) (blkOk_by (N := n__law_tag) (sc := defScope s__law_tag) (by decide +kernel)) (fun _ _ _ _ _ => (dg_name 3 c.nd)) (fun _ _ _ _ _ => dts_nil) (fun _ _ _ _ _ => (de_callS c.blk 0 F__law_one Z__law_one.g Z__law_one.F.kp Z__law_one.b (da_cons (de_add c.blkq (de_var 1) de_str) da_nil))))
      (dss_one (ds_ret (de_add c (de_callS c 0 F__law_one Z__law_one.g Z__law_one.F.kp Z__law_one.b (da_cons (de_var 1) da_nil)) (de_join c de_str (de_var 2)))))))), fun ss R e hsp hl => ?_⟩
  obtain ⟨p, n, rfl, hn, hR⟩ := hsp
  refine ⟨⟨_, rfl⟩, rfl, p, 3, n, rfl, by decide, by decide, by omega, fun d hd => ⟨_, rfl, okP_int, okP_int, ?_⟩⟩
  by_cases d0 : d = 0
  · refine ifT (by rw [eqD_int]; simp [d0]) ?_
    refine ⟨⟨_, rfl⟩, leN rfl, fun q => ⟨rfl, p, n + 1, _, _, rfl, rfl, by decide, by decide, by omega, fun x hx => ⟨_, rfl, ?_⟩⟩⟩
    obtain ⟨z, hz, rfl⟩ : ∃ z ∈ words, x = .str z := by
      have hx' : x ∈ words.map D.str := hx
      obtain ⟨z, hz, e⟩ := List.mem_map.mp hx'
      exact ⟨z, hz, e.symm⟩
    exact hR z _ (words_names z hz) (by omega)
  · refine ifF (by rw [eqD_int]; simp; omega) ?_
    refine ⟨ltR rfl, ⟨_, rfl⟩, leN rfl, fun q => ⟨rfl, p, n + 1, _, _, rfl, rfl, by decide, by decide, by omega, fun x hx => ⟨_, rfl, ?_⟩⟩⟩
    obtain ⟨j, rfl, hj⟩ : ∃ j : Nat, x = .int j ∧ j ≤ 7 := by
      have hx' : x ∈ [D.int 0, .int 0, .int 1, .int 2, .int 7] := hx
      simp only [List.mem_cons, List.not_mem_nil, or_false] at hx'
      rcases hx' with rfl | rfl | rfl | rfl | rfl
      · exact ⟨0, rfl, by decide⟩
      · exact ⟨0, rfl, by decide⟩
      · exact ⟨1, rfl, by decide⟩
      · exact ⟨2, rfl, by decide⟩
      · exact ⟨7, rfl, by decide⟩
    refine ⟨⟨by omega, by omega⟩, ?_, fun q2 => ?_⟩
    · unfold intsD
      rw [List.length_map, List.length_range, sizeLine_eq]
      omega
    refine lcR_ind (fun done acc ρ => ∃ cs : List Nat, acc = cs.map (fun c => D.str (sg c)) ∧ (∀ c ∈ cs, inS sgns c = true) ∧ cs.length = done.length ∧ ∃ x3, ρ = [some (.m p (.src (n + 2 + cs.length))), some (.d (.str lets)), none, x3]) ⟨[], rfl, fun c hc => (nomatch hc), rfl, none, rfl⟩ ?_ ?_
    · rintro K done x rest acc ρ eds ⟨cs, rfl, hc, hlen, x3, rfl⟩ hK
      have hjl : cs.length < j := by
        have := congrArg List.length eds
        unfold intsD at this
        rw [List.length_map, List.length_range, List.length_append, List.length_cons] at this
        have e : (j : Int).toNat = j := by omega
        omega
      refine ⟨ltR rfl, ⟨_, rfl⟩, Nat.le_of_ble_eq_true (by decide +kernel), rfl, p, n + 2 + cs.length, _, _, rfl, rfl, by decide +kernel, by decide +kernel, by omega, fun y hy => ⟨_, rfl, ?_⟩⟩
      obtain ⟨c, hcm, rfl⟩ : ∃ c ∈ sgns.cps.toList, y = .str (sg c) := by
        obtain ⟨c, h1, h2⟩ := List.mem_map.mp hy
        exact ⟨c, h1, h2.symm⟩
      refine hK _ _ ⟨cs ++ [c], ?_, ?_, ?_, some (.d x), ?_⟩
      · rw [List.map_append]; rfl
      · intro d hd
        rcases List.mem_append.mp hd with h | h
        · exact hc d h
        · rw [List.mem_singleton.mp h]
          exact decide_eq_true hcm
      · rw [List.length_append, List.length_append, hlen]; rfl
      · rw [List.length_append]; rfl
    · rintro acc ρ ⟨cs, rfl, hc, hlen, x3, rfl⟩
      have jl : cs.length ≤ 7 := by
        rw [hlen]
        unfold intsD
        rw [List.length_map, List.length_range]
        omega
      refine ⟨ltR rfl, ⟨_, rfl⟩, rfl, p, n + 2 + cs.length, _, _, rfl, rfl, by decide +kernel, by decide +kernel, by omega, fun y hy => ⟨_, rfl, ?_⟩⟩
      obtain ⟨c, hcm, rfl⟩ : ∃ c ∈ lets.cps.toList, y = .str (sg c) := by
        obtain ⟨c, h1, h2⟩ := List.mem_map.mp hy
        exact ⟨c, h1, h2.symm⟩
      have ej := join_sg cs
      have elen : (Txt.join ("" : Str) (cs.map sg)).length = cs.length := by rw [len_cps, ej]
      refine opt_ok (strs_sg cs) ⟨?_, ?_, ?_⟩
      · rw [sum_sg]
        show cs.length + (cs.map sg).length * 0 ≤ 16777216
        omega
      · rw [elen]
        show 1 + cs.length ≤ sizeLine
        exact sm100 (by omega)
      · refine hR _ _ (name_of (c := c) (cs := cs) ?_ hcm hc jl) (by omega)
        rw [cps_append, ej]
        rfl
end
end QL
set_option Elab.async false
set_option linter.all false
set_option maxRecDepth 100000
set_option maxHeartbeats 4000000
namespace QL
open PySem L2
open PySem.W (Frag)
theorem intsD_at {n : Nat} {done rest : List D} {x : D} (e : intsD n = done ++ x :: rest) : x = .int (done.length : Nat) ∧ done.length < n := by
  have hl := congrArg List.length e
  unfold intsD at hl e
  rw [List.length_map, List.length_range, List.length_append, List.length_cons] at hl
  have h1 : ((List.range n).map fun k => D.int (k : Nat))[done.length]? = some x := by
    rw [e, List.getElem?_append_right (Nat.le_refl _), Nat.sub_self]
    rfl
  rw [List.getElem?_map, List.getElem?_range (by omega)] at h1
  cases h1
  exact ⟨rfl, by omega⟩
theorem intsD_len (n : Nat) : (intsD n).length = n := by unfold intsD; rw [List.length_map, List.length_range]
def dstr (zs : List Str) : List D := zs.map D.str
theorem dstr_inj : ∀ {a b : List Str}, dstr a = dstr b → a = b
  | [], [], _ => rfl
  | x :: a, y :: b, h => by
    have h : D.str x :: dstr a = D.str y :: dstr b := h
    injection h with h1 h2
    injection h1 with h1
    rw [h1, dstr_inj h2]
  | [], _ :: _, h => by cases h
  | _ :: _, [], h => by cases h
theorem okP_strs (zs : List Str) : okP (.lst (dstr zs)) := by
  have h1 : plDs (dstr zs) = true := by
    induction zs with
    | nil => rfl
    | cons z zs ih =>
      show (plD (.str z) && plDs (dstr zs)) = true
      rw [ih]; rfl
  have h2 : PyData.depthAll (toPs (dstr zs)) ≤ 0 := by
    clear h1
    induction zs with
    | nil => simp [dstr, toPs, PyData.depthAll]
    | cons z zs ih =>
      show PyData.depthAll (toP (.str z) :: toPs (dstr zs)) ≤ 0
      rw [PyData.depthAll]
      have : (toP (.str z)).depth = 0 := by simp [toP, PyData.depth]
      omega
  refine ⟨h1, ?_⟩
  show (PyData.list (toPs (dstr zs))).depth ≤ 64
  rw [PyData.depth]
  omega
theorem any_strs (y : Str) : ∀ zs : List Str, ((dstr zs).any fun w => eqD w (.str y)) = decide (y ∈ zs)
  | [] => by simp [dstr]
  | z :: zs => by
    show (eqD (.str z) (.str y) || (dstr zs).any fun w => eqD w (.str y)) = _
    rw [any_strs y zs, eqD_str]
    by_cases h : z = y
    · subst h; simp
    · have : ¬ y = z := fun e => h e.symm
      simp [h, this]
abbrev s__law_tags : Stmt := top 50
abbrev n__law_tags : List Str := ["_law_source_here", "_law_many", "_law_found", "_law_k", "_law_tag_here", "_law_spare", "_law_j", "_law_each"]
theorem sc__law_tags : FnScope n__law_tags ["_law_source_here", "_law_many"] (defScope s__law_tags) := ⟨rfl, rfl, rfl, by decide +kernel, rfl, by decide +kernel, by decide +kernel⟩
def psTags : PSp := fun ss R _ => ∃ (p : Addr) (m n : Nat), ss = [.m p (.src n), .d (.int m)] ∧ m ≤ 9 ∧ n < 80000 ∧ ∀ (zs : List Str) (q : Addr) (n' : Nat), zs.length = m → zs.Nodup → (∀ z ∈ zs, nameS z = true) → n' ≤ n + 12 * m → R (.m q (.lst (dstr zs))) [(p, .src n')]
section
variable {P : Program} {w : World} {G : Gw} {mg : Str → Option Value} {base : Heap} {k : Nat} {f : Addr} {fd : FuncData} {fP fO fT : Addr} {dP dO dT : FuncData}
theorem p_tags (F : Fun G.W.K "_law_tags" "_law_tags" s__law_tags f fd) (T : Bn mg) (Z__law_pick : DefAt G.W.K mg "_law_pick" sPick fP dP ["_law_source_here", "_law_many"]) (Z__law_one : DefAt G.W.K mg "_law_one" s__law_one fO dO ["_law_source_here", "_law_things"]) (Z__law_tag : DefAt G.W.K mg "_law_tag" s__law_tag fT dT ["_law_source_here"]) :
    FnOk P w G.W.K mg base (L2N.CX P w) (k + 4) f fd ["_law_source_here", "_law_many"] (toSp G 2 psTags) := by
  have F__law_tag : FnOk P w G.W.K mg base (L2N.CX P w) (k + 3) fT dT ["_law_source_here"] (toSp G 1 psTag) := p_tag Z__law_tag.F T Z__law_pick Z__law_one
  refine fn_pure F sc__law_tags (by decide) fun cdv A outer s H E c => ⟨_, _, (dss_cons (ds_set (i := 2) (de_lst da_nil) c.nd)
      (dss_cons (ds_for c (di_range T.ran (da_cons (de_var 1) da_nil)) (dg_name 3 c.nd) (dss_cons (ds_set (i := 4) (de_callS c 0 F__law_tag Z__law_tag.g Z__law_tag.F.kp Z__law_tag.b da_nil) c.nd)
      (dss_cons (ds_set (i := 5) (de_add c (de_lst (da_cons (de_var 4) da_nil)) (de_lc (own := [("_law_j", 6)]) c (di_range T.ran (da_cons (de_var 1) da_nil)) (blkOk_by (N := n__law_tags) (sc := defScope s__law_tags) (by decide +kernel)) (fun _ _ _ _ _ => (dg_name 6 c.nd)) (fun _ _ _ _ _ => dts_nil) (fun _ _ _ _ _ => (de_add c.blkq (de_cut c.blkq (de_var 4) do_none (do_some de_int)) (de_strI T (da_cons (de_var 6) da_nil)))))) c.nd)
      (dss_one (ds_expr (de_append c 2 (de_item c (de_lc (own := [("_law_each", 7)]) c (di_seq c (de_var 5)) (blkOk_by (N := n__law_tags) (sc := defScope s__law_tags) (by decide +kernel)) (fun _ _ _ _ _ => (dg_name 7 c.nd)) (fun _ _ _ _ _ => (dts_one (dt_notInV c.blkq 2 (de_var 7)))) (fun _ _ _ _ _ => (de_var 7))) de_int)))))))
      (dss_one (ds_retV 2)))), fun ss R e hsp hl => ?_⟩
  obtain ⟨p, m, n, rfl, hm, hn, hR⟩ := hsp
  refine ⟨leN rfl, fun q => ⟨ltR rfl, ⟨by omega, by omega⟩, ?_⟩⟩
  refine loopR_ind (fun done ρ => ∃ (zs : List Str) (n' : Nat) (x3 x4 x5 : Option S), zs.length = done.length ∧ zs.Nodup ∧ (∀ z ∈ zs, nameS z = true) ∧ n' ≤ n + 12 * done.length ∧ ρ = [some (.m p (.src n')), some (.d (.int m)), some (.m q (.lst (dstr zs))), x3, x4, x5, none, none]) ⟨[], n, none, none, none, rfl, List.nodup_nil, fun z hz => (nomatch hz), by omega, rfl⟩ ?_ ?_
  · rintro K done x rest ρ eds ⟨zs, n', x3, x4, x5, hlen, hnd, hnm, hn', rfl⟩ hK
    obtain ⟨rfl, hlt⟩ := intsD_at eds
    have em : (m : Int).toNat = m := by omega
    rw [em] at hlt
    refine ⟨ltR rfl, ⟨_, rfl⟩, rfl, p, n', rfl, by omega, fun z n2 hz hn2 => ⟨_, rfl, ltR rfl, leN rfl, fun q1 => ⟨⟨by omega, by omega⟩, ?_, fun q2 => ?_⟩⟩⟩
    · rw [intsD_len, sizeLine_eq]; omega
    refine lcR_ind (fun done2 acc ρ => ∃ x6, acc = (List.range done2.length).map (fun j => D.str (cut6 z ++ dig j)) ∧ ρ = [some (.m p (.src n2)), some (.d (.int m)), some (.m q (.lst (dstr zs))), some (.d (.int (done.length : Nat))), some (.d (.str z)), x5, x6, none]) ⟨none, rfl, rfl⟩ ?_ ?_
    · rintro K2 done2 y rest2 acc ρ eds2 ⟨x6, rfl, rfl⟩ hK2
      obtain ⟨rfl, hlt2⟩ := intsD_at eds2
      rw [em] at hlt2
      have hd : (done2.length : Int).natAbs.log2 < 1920 ∧ (Str.ofString (toString (done2.length : Int))).length ≤ 100 := by
        have z9 : ∀ j : Nat, j < 10 → ((j : Nat) : Int).natAbs.log2 < 1920 ∧ (Str.ofString (toString (j : Int))).length ≤ 100 := by decide +kernel
        exact z9 _ (by omega)
      have h8 := (name_ok hz).2.2
      refine ⟨ltR rfl, ⟨hd.1, sm100 hd.2⟩, ?_, hK2 _ _ ⟨_, ?_, rfl⟩⟩
      · have := cutS_length z none (some 6)
        rw [sizeLine_eq]
        omega
      · rw [List.length_append, List.length_cons, List.length_nil, List.range_succ, List.map_append]
        rfl
    · rintro acc ρ ⟨x6, rfl, rfl⟩
      rw [intsD_len, em]
      have esp : [D.str z] ++ (List.range m).map (fun j => D.str (cut6 z ++ dig j)) = dstr (spares z m) := by
        unfold dstr spares
        rw [List.map_cons, List.map_map]
        rfl
      refine ⟨?_, fun q3 => ⟨ltR rfl, ?_⟩⟩
      · rw [List.length_map, List.length_range, sizeLine_eq]
        show 1 + m ≤ _
        omega
      rw [esp]
      refine ⟨⟨_, _, rfl⟩, ?_, fun q4 => ?_⟩
      · unfold dstr spares
        rw [List.length_map, List.length_cons, List.length_map, List.length_range, sizeLine_eq]
        omega
      refine lcR_ind (fun done3 acc ρ => ∃ (x7 : Option S) (ys : List Str), done3 = dstr ys ∧ acc = dstr (ys.filter fun y => !decide (y ∈ zs)) ∧ ρ = [some (.m p (.src n2)), some (.d (.int m)), some (.m q (.lst (dstr zs))), some (.d (.int (done.length : Nat))), some (.d (.str z)), some (.d (.lst (dstr (spares z m)))), none, x7]) ⟨none, [], rfl, rfl, rfl⟩ ?_ ?_
      · rintro K3 done3 y rest3 acc ρ eds3 ⟨x7, ys, rfl, rfl, rfl⟩ hK3
        obtain ⟨y, rfl⟩ : ∃ y', y = .str y' := by
          have : y ∈ dstr (spares z m) := by rw [eds3]; exact List.mem_append_right _ List.mem_cons_self
          obtain ⟨y', _, e⟩ := List.mem_map.mp this
          exact ⟨y', e.symm⟩
        refine ⟨ltR rfl, ⟨_, rfl⟩, okP_str, okP_strs zs, ?_⟩
        show if (((dstr zs).any fun w => eqD w (.str y)) != true) = true then _ else _
        rw [any_strs, bneT]
        by_cases hy : y ∈ zs
        · refine ifF (by simp [hy]) (hK3 _ _ ⟨_, ys ++ [y], ?_, ?_, rfl⟩)
          · unfold dstr; rw [List.map_append]; rfl
          · rw [List.filter_append]; simp [hy]
        · refine ifT (by simp [hy]) (hK3 _ _ ⟨_, ys ++ [y], ?_, ?_, rfl⟩)
          · unfold dstr; rw [List.map_append]; rfl
          · unfold dstr
            rw [List.filter_append, List.map_append]; simp [hy]
      · rintro acc ρ ⟨x7, ys, eys, rfl, rfl⟩
        have eys : spares z m = ys := dstr_inj eys
        subst eys
        obtain ⟨y, hy1, hy2⟩ := spares_new (z := z) (show m ≤ 10 by omega) (found := zs) (by omega)
        have hmem : y ∈ (spares z m).filter fun y => !decide (y ∈ zs) := List.mem_filter.mpr ⟨hy1, by simp [hy2]⟩
        obtain ⟨y0, ys', e0⟩ := List.exists_cons_of_ne_nil (List.ne_nil_of_mem hmem)
        have h0 : y0 ∈ (spares z m).filter fun y => !decide (y ∈ zs) := by rw [e0]; exact List.mem_cons_self
        obtain ⟨g1, g2⟩ := List.mem_filter.mp h0
        have g2 : y0 ∉ zs := by simpa using g2
        rw [e0]
        refine opt_ok (x := .str y0) (atI_nat (j := 0) rfl) ⟨?_, hK _ ⟨zs ++ [y0], n2, some (.d (.int (done.length : Nat))), some (.d (.str z)), some (.d (.lst (dstr (spares z m)))), ?_, ?_, ?_, ?_, ?_⟩⟩
        · unfold dstr
          rw [List.length_map, sizeLine_eq]
          omega
        · rw [List.length_append, List.length_append, hlen]; rfl
        · rw [List.nodup_append]
          exact ⟨hnd, List.pairwise_singleton _ _, fun a ha b hb e => g2 (by rw [← List.mem_singleton.mp hb, ← e]; exact ha)⟩
        · intro z' hz'
          rcases List.mem_append.mp hz' with h | h
          · exact hnm z' h
          · rw [List.mem_singleton.mp h]
            exact spares_names hz (by omega) y0 g1
        · rw [List.length_append]
          show n2 ≤ n + 12 * (done.length + 1)
          omega
        · have ed : dstr (zs ++ [y0]) = dstr zs ++ [.str y0] := by unfold dstr; rw [List.map_append]; rfl
          rw [ed]
          rfl
  · rintro ρ ⟨zs, n', x3, x4, x5, hlen, hnd, hnm, hn', rfl⟩
    rw [intsD_len] at hlen hn'
    exact hR zs q n' (by omega) hnd hnm (by omega)
end
end QL
set_option Elab.async false
set_option linter.all false
set_option maxRecDepth 100000
set_option maxHeartbeats 4000000
namespace QL
open PySem L2
open PySem.W (Frag)
/-! ### the program's exceptions, in the order of the law's own words; then their bases -/
structure ErrK (G : Gw) (mg : Str → Option Value) : Prop where
  nm : ∀ i, i < 22 → mg (xsn i) = some (.ref (G.W.CA i))
  xt : ∀ i, i < 22 → XtOk G (.ref (G.W.CA i)) (xtS i)
  nValueError : mg "ValueError" = none
  nLookupError : mg "LookupError" = none
  nRuntimeError : mg "RuntimeError" = none
  nArithmeticError : mg "ArithmeticError" = none
  xb : ∀ j, j < 4 → XtOk G (.type (bsn j)) (xtB j)
  exm : ∀ c, c < 18 → PySem.W.exmAny G.W.K (.ref (G.W.CA c)) [.ref (G.W.CA 18), .ref (G.W.CA 19), .ref (G.W.CA 20), .ref (G.W.CA 21)] = some true
  fIndex : ExFOk G [13, 14, 15] "index"
  fLimit : ExFOk G [16] "limit"
  fValue : ExFOk G [0, 1, 2, 3, 4, 5, 6, 7, 8, 9, 10, 11, 12] "value"
  xf : ∀ c, c < 18 → G.XF c = xfN c
/-- what is told of an exception -/
def gCap (gq : Bool) (x : XD) (R : D → Prop) : Prop := x.1 < 18 ∧ gRepr gq [if x.1 = 17 then .non else x.2] fun s => ∃ z, s = .d (.str z) ∧ R (.lst [.str (wdn x.1), .str z])
theorem gRepr_mono {g : Bool} {ds : List D} {P Q : S → Prop} (h : ∀ s, P s → Q s) (hr : gRepr g ds P) : gRepr g ds Q := by
  unfold gRepr at hr ⊢
  split at hr
  · exact h _ hr
  · exact h _ hr
  · exact ⟨hr.1, h _ hr.2⟩
  · exact ⟨hr.1, h _ hr.2⟩
  · exact ⟨hr.1, h _ hr.2⟩
  · exact ⟨hr.1, h _ hr.2⟩
  · exact ⟨hr.1, h _ hr.2⟩
  · exact hr
theorem gCap_mono {gq : Bool} (x : XD) (P Q : D → Prop) (h : ∀ y, P y → Q y) (hr : gCap gq x P) : gCap gq x Q := ⟨hr.1, gRepr_mono (fun _ ⟨z, e, k⟩ => ⟨z, e, h _ k⟩) hr.2⟩
instance (d : D) : Decidable (okP d) := inferInstanceAs (Decidable (_ ∧ _))
abbrev s__law_field : Stmt := top 57
abbrev n__law_field : List Str := ["_law_e", "_law_at"]
theorem sc__law_field : FnScope n__law_field ["_law_e", "_law_at"] (defScope s__law_field) := ⟨rfl, rfl, rfl, by decide +kernel, rfl, by decide +kernel, by decide +kernel⟩
def psField (G : Gw) (a : Addr) (cls : Value) (d : Option Addr) : PSp := fun ss R _ => ∃ (c : Nat) (fs : List Str) (xs : List D), ss = [.d (.exc a c d fs xs), .d (.int (c : Nat))] ∧ cls = .ref (G.W.CA c) ∧ c < 18 ∧ ((c = 17 ∧ R (.d .non) []) ∨ ∃ f x, xfN c = some f ∧ fs = [f] ∧ xs = [x] ∧ d.isSome = true ∧ R (.d x) [])
section
variable {P : Program} {w : World} {G : Gw} {mg : Str → Option Value} {base : Heap} {k : Nat} {f : Addr} {fd : FuncData} {a : Addr} {cls : Value} {d : Option Addr}
theorem p_field (F : Fun G.W.K "_law_field" "_law_field" s__law_field f fd) (T : Bn mg) (K : ErrK G mg) : FnP P w G.W.K mg base (k + 1) f fd ["_law_e", "_law_at"] a cls d (toSp G 2 (psField G a cls d)) := by
  have XF_index := K.fIndex
  have XF_limit := K.fLimit
  have XF_value := K.fValue
  refine fn_pureP F sc__law_field (by decide) fun cdv A outer s H oe c P => ⟨_, _, (dss_cons (ds_if (dt_in c (de_var 1) (de_lst (da_cons de_int (da_cons de_int (da_cons de_int da_nil))))) (dss_one (ds_ret (de_exF c P XF_index (de_var 0)))) dss_nil)
      (dss_cons (ds_if (dt_gt (de_var 1) de_int) (dss_one (ds_ret (de_ifE (dt_eq c (de_var 1) de_int) (de_exF c P XF_limit (de_var 0)) de_non))) dss_nil)
      (dss_one (ds_ret (de_exF c P XF_value (de_var 0)))))), fun ss R e hsp hl => ?_⟩
  obtain ⟨i, fs, xs, rfl, rfl, hi, hh⟩ := hsp
  have hc : i = 0 ∨ i = 1 ∨ i = 2 ∨ i = 3 ∨ i = 4 ∨ i = 5 ∨ i = 6 ∨ i = 7 ∨ i = 8 ∨ i = 9 ∨ i = 10 ∨ i = 11 ∨ i = 12 ∨ i = 13 ∨ i = 14 ∨ i = 15 ∨ i = 16 ∨ i = 17 := by omega
  have no17 : ∀ {i : Nat}, i ≠ 17 → ((i = 17 ∧ R (.d .non) []) ∨ ∃ f x, xfN i = some f ∧ fs = [f] ∧ xs = [x] ∧ d.isSome = true ∧ R (.d x) []) → ∃ f x, xfN i = some f ∧ fs = [f] ∧ xs = [x] ∧ d.isSome = true ∧ R (.d x) [] := fun hn h => h.elim (fun z => absurd z.1 hn) id
  rcases hc with rfl | rfl | rfl | rfl | rfl | rfl | rfl | rfl | rfl | rfl | rfl | rfl | rfl | rfl | rfl | rfl | rfl | rfl
  iterate 13
    · obtain ⟨f, x, e1, rfl, rfl, h4, h5⟩ := no17 (by decide) hh
      cases e1
      refine ⟨leN rfl, fun p => ⟨okP_int, by decide +kernel, ?_⟩⟩
      refine ifF (by decide +kernel) ?_
      exact ⟨⟨rfl, rfl, rfl, h4, by decide⟩, opt_ok rfl h5⟩
  iterate 3
    · obtain ⟨f, x, e1, rfl, rfl, h4, h5⟩ := no17 (by decide) hh
      cases e1
      refine ⟨leN rfl, fun p => ⟨okP_int, by decide +kernel, ?_⟩⟩
      refine ifT (by decide +kernel) ?_
      exact ⟨⟨rfl, rfl, rfl, h4, by decide⟩, opt_ok rfl h5⟩
  · obtain ⟨f, x, e1, rfl, rfl, h4, h5⟩ := no17 (by decide) hh
    cases e1
    refine ⟨leN rfl, fun p => ⟨okP_int, by decide +kernel, ?_⟩⟩
    refine ifF (by decide +kernel) ?_
    refine ⟨okP_int, okP_int, ifT (by decide +kernel) ?_⟩
    exact ⟨⟨rfl, rfl, rfl, h4, by decide⟩, opt_ok rfl h5⟩
  · rcases hh with ⟨_, h5⟩ | ⟨f, x, e1, _⟩
    · refine ⟨leN rfl, fun p => ⟨okP_int, by decide +kernel, ?_⟩⟩
      refine ifF (by decide +kernel) ?_
      exact ⟨okP_int, okP_int, ifF (by decide +kernel) h5⟩
    · cases e1
end
end QL
set_option Elab.async false
set_option linter.all false
set_option maxRecDepth 100000
set_option maxHeartbeats 4000000
namespace QL
open PySem L2
open PySem.W (Frag)
abbrev s__law_caught : Stmt := top 56
abbrev n__law_caught : List Str := ["_law_act", "_law_given", "_law_e", "_law_sorts", "_law_bases", "_law_plain", "_law_words", "_law_at", "_law_due_here"]
theorem sc__law_caught : FnScope n__law_caught ["_law_act"] (defScope s__law_caught) := ⟨rfl, rfl, rfl, by decide +kernel, rfl, by decide +kernel, by decide +kernel⟩
def suiteOf : Stmt → List Stmt
  | .Try _ (.ExceptHandler _ _ b _ :: _) _ _ _ => b
  | _ => []
section
variable {P : Program} {w : World} {G : Gw} {mg : Str → Option Value} {base : Heap} {k : Nat} {gq : Bool} {f : Addr} {fd : FuncData} {fF : Addr} {dF : FuncData} {X : Cx}
def sortB (i : Nat) : List Bool := (List.range 18).map fun j => i == j
def sortL (i : Nat) : List D := (List.range 18).map fun j => D.bl (i == j)
def basL (i : Nat) : List D := (List.range 4).map fun j => D.bl (basN i == j)
def wdsL : List D := (List.range 18).map fun j => D.str (wdn j)
theorem sort_b (i : Nat) : boolsD (sortL i) = some (sortB i) := rfl
theorem sort_c : ∀ i, i < 18 → (sortB i).count true = 1 := by decide +kernel
theorem sort_i : ∀ i, i < 18 → (sortB i).idxOf? true = some i := by decide +kernel
theorem sort_1 {i : Nat} (hi : i < 18) : (eqD (.int ((sortB i).count true : Nat)) (.int 1) != false) = true := by rw [sort_c i hi]; decide +kernel
theorem sort_2 {i : Nat} (hi : i < 18) : (eqD (.int ((sortB i).count true : Nat)) (.int 1) != true) = false := by rw [sort_c i hi]; decide +kernel
theorem due_1 : ∀ i, i < 18 → ((intsD 11 ++ ([.int 13, .int 14, .int 15] : List D)).any (fun y => eqD y (.int (i : Nat))) != false) = (basN i == 0) := by decide +kernel
theorem due_2 : ∀ i, i < 18 → (([.int 11, .int 12] : List D).any (fun y => eqD y (.int (i : Nat))) != false) = (basN i == 1) := by decide +kernel
theorem due_3 : ∀ i : Nat, i < 18 → (eqD (.int (i : Nat)) (.int 17) != false) = (basN i == 2) := by decide +kernel
theorem due_4 : ∀ i : Nat, i < 18 → (eqD (.int (i : Nat)) (.int 16) != false) = (basN i == 3) := by decide +kernel
theorem due_eq {i : Nat} (hi : i < 18) {o0 o1 o2 o3 o4 o5 o6 o7 : Option S} {p : Addr} : ([o0, o1, o2, o3, o4, o5, o6, o7, some (.m p (.lst [.bl ((intsD 11 ++ ([.int 13, .int 14, .int 15] : List D)).any (fun y => eqD y (.int (i : Nat))) != false), .bl (([.int 11, .int 12] : List D).any (fun y => eqD y (.int (i : Nat))) != false), .bl (eqD (.int (i : Nat)) (.int 17) != false), .bl (eqD (.int (i : Nat)) (.int 16) != false)]))] : Env) = [o0, o1, o2, o3, o4, o5, o6, o7, some (.m p (.lst (basL i)))] := by
  rw [due_1 i hi, due_2 i hi, due_3 i hi, due_4 i hi]
  rfl
theorem okP_bas (i : Nat) : okP (.lst (basL i)) := ⟨rfl, Nat.le_of_ble_eq_true rfl⟩
theorem bas_eq : ∀ i, i < 18 → (eqD (.lst (basL i)) (.lst (basL i)) != true) = false := by decide +kernel
theorem wds_at (i : Nat) (hi : i < 18) : wdsL[i]? = some (.str (wdn i)) := by
  unfold wdsL
  rw [List.getElem?_map, List.getElem?_range hi]
  rfl
section
variable {d : Rd} {ρ : Env} {R : S → Env → Prop} {e : XD → Prop} {i : Nat} {xs : List D} {bs : List Bool} {b : Bool}
theorem q_seq {r u : RS} (h : r { d with nx := fun ρ' => u d ρ' } ρ) : sSeq r u d ρ := h
theorem q_set {r : RE} (h : r ρ (fun s ρ' => i < ρ'.length ∧ d.nx (ρ'.set i (some s))) d.ex) : sSet i r d ρ := h
theorem q_if {c : RT} {r u : RS} (h : c ρ (fun b ρ' => if b = true then r d ρ' else u d ρ') d.ex) : sIf c r u d ρ := h
theorem q_ret {r : RE} (h : r ρ d.rt d.ex) : sRet r d ρ := h
theorem q_ifE {t : RT} {ra rb : RE} (h : t ρ (fun b ρ' => if b = true then ra ρ' R e else rb ρ' R e) e) : rIfE t ra rb ρ R e := h
theorem q_tst {r : RE} {R : Bool → Env → Prop} (h : r ρ (fun s ρ' => match s with
  | .d (.bl b) => R b ρ'
  | _ => False) e) : rTst r ρ R e := h
theorem q_bin {g : F2} {ra rb : RE} (h : ra ρ (fun s ρ1 => rb ρ1 (fun t ρ2 => g s t fun z => R z ρ2) e) e) : rBin g ra rb ρ R e := h
theorem q_or {r u : RT} {R : Bool → Env → Prop} (h : r ρ (fun b ρ' => if b = true then R true ρ' else u ρ' R e) e) : rOr r u ρ R e := h
theorem cnt_d (h : ρ[i]? = some (some (.d (.lst xs)))) (hb : boolsD xs = some bs) (k : R (.d (.int (bs.count b : Nat))) ρ) : rCnt' (rVar i) (rC (.bl b)) ρ R e := by
  unfold rCnt' rVar rC
  rw [h]
  exact opt_ok hb k
theorem cnt_m {a : Addr} (h : ρ[i]? = some (some (.m a (.lst xs)))) (hb : boolsD xs = some bs) (k : R (.d (.int (bs.count b : Nat))) (ρ.set i (some (.d (.lst xs))))) : rCnt' (rVar i) (rC (.bl b)) ρ R e := by
  unfold rCnt' rVar rC
  rw [h]
  exact opt_ok hb k
theorem idx_d {j : Nat} (h : ρ[i]? = some (some (.d (.lst xs)))) (hb : boolsD xs = some bs) (hj : bs.idxOf? b = some j) (k : R (.d (.int (j : Nat))) ρ) : rIdx' (rVar i) (rC (.bl b)) ρ R e := by
  unfold rIdx' rVar rC
  rw [h]
  exact opt_ok hb (opt_ok hj k)
end
theorem toE {P : Env → Prop} {ρ ρ' : Env} (e : ρ = ρ') (h : P ρ') : P ρ := e ▸ h
theorem ltZ {n : Nat} (h : n.ble 99999 = true) : n < sizeLine := by
  have := Nat.le_of_ble_eq_true h
  rw [sizeLine_eq]; omega
theorem isS {i j : Nat} {A B C : Prop} {R : Bool → Prop} (hi : i < 18) (hj : Nat.ble (j + 1) 18 = true) (h1 : A) (h2 : B) (h3 : C) (h : R (i == j)) : (A ∧ B ∧ C) ∧ optP (xtS j i) R := by
  have hj : j < 18 := Nat.le_of_ble_eq_true hj
  exact ⟨⟨h1, h2, h3⟩, opt_ok (by unfold xtS; rw [if_pos hi, if_pos hj]) h⟩
theorem isB {i j : Nat} {A B C : Prop} {R : Bool → Prop} (hi : i < 18) (hj : Nat.ble 18 j = true) (h1 : A) (h2 : B) (h3 : C) (h : R (basN i == j - 18)) : (A ∧ B ∧ C) ∧ optP (xtS j i) R := by
  have hj : ¬ j < 18 := Nat.not_lt.mpr (Nat.le_of_ble_eq_true hj)
  exact ⟨⟨h1, h2, h3⟩, opt_ok (by unfold xtS; rw [if_pos hi, if_neg hj]) h⟩
theorem isP {i j : Nat} {A B C : Prop} {R : Bool → Prop} (hi : i < 18) (h1 : A) (h2 : B) (h3 : C) (h : R (basN i == j)) : (A ∧ B ∧ C) ∧ optP (xtB j i) R := ⟨⟨h1, h2, h3⟩, opt_ok (by unfold xtB; rw [if_pos hi]) h⟩
theorem isx {A B C : Prop} {o : Option Bool} {b : Bool} {R : Bool → Prop} (h1 : A) (h2 : B) (h3 : C) (e : o = some b) (h : R b) : (A ∧ B ∧ C) ∧ optP o R := ⟨⟨h1, h2, h3⟩, opt_ok e h⟩
/-- the except suite -/
theorem caught_suite {cdv : Value} {A : Around} {outer : List PySem.Env} {s : Shared} {H : Hp} (T : Bn mg) (K : ErrK G mg) (Z__law_field : DefAt G.W.K mg "_law_field" s__law_field fF dF ["_law_e", "_law_at"]) : ∃ r : Addr → Value → Option Addr → RS,
    (∀ (a : Addr) (oe : Obj) (cls : Value) (d : Option Addr) (pn : List (Addr × Obj)), Cq G ((cxOf (L2N.CX P w) P w G.W.K mg base n__law_caught "_law_caught" (defScope s__law_caught) f cdv A outer s H E0).suite a ((a, oe) :: pn)) → PinX ((cxOf (L2N.CX P w) P w G.W.K mg base n__law_caught "_law_caught" (defScope s__law_caught) f cdv A outer s H E0).suite a ((a, oe) :: pn)) a cls d → ((cxOf (L2N.CX P w) P w G.W.K mg base n__law_caught "_law_caught" (defScope s__law_caught) f cdv A outer s H E0).suite a ((a, oe) :: pn)).A.handled = some (.ref a) → L2H.RoomH (k + 1) ((cxOf (L2N.CX P w) P w G.W.K mg base n__law_caught "_law_caught" (defScope s__law_caught) f cdv A outer s H E0).suite a ((a, oe) :: pn)).A → (gq = true → ((cxOf (L2N.CX P w) P w G.W.K mg base n__law_caught "_law_caught" (defScope s__law_caught) f cdv A outer s H E0).suite a ((a, oe) :: pn)).A.guards = some []) → FnP P w G.W.K mg base (k + 1) fF dF ["_law_e", "_law_at"] a cls d (toSp G 2 (psField G a cls d)) →
      ∃ t, DSs G E0 ((cxOf (L2N.CX P w) P w G.W.K mg base n__law_caught "_law_caught" (defScope s__law_caught) f cdv A outer s H E0).suite a ((a, oe) :: pn)) (suiteOf ((defBody s__law_caught).getD 0 (.Pass ⟨0, 0, 0, 0⟩))) t (r a cls d)) ∧
    ∀ (a : Addr) (d : Option Addr) (x : XD) (fs : List Str) (xs : List D) (R : S → Prop), (x.1 < 18) → (∀ f, xfN x.1 = some f → fs = [f] ∧ xs = [x.2] ∧ d.isSome = true) → gRepr gq [if x.1 = 17 then .non else x.2] (fun s => ∃ z, s = .d (.str z) ∧ ∀ p, R (.m p (.lst [.str (wdn x.1), .str z]))) →
      r a (.ref (G.W.CA x.1)) d { nx := fun _ => False, rt := fun s _ => R s, ex := fun _ => False } ((List.replicate n__law_caught.length none).set 2 (some (.d (.exc a x.1 d fs xs)))) := by
  have nd := sc__law_caught.nd
  refine ⟨fun a cls d => _, fun a oe cls d pn c P hh rm hgd F__law_field => ⟨_, (dss_cons (ds_set (i := 3) (de_lst (da_cons (de_isPC c P T (de_var 2) (K.nm 0 (by decide)) (K.xt 0 (by decide))) (da_cons (de_isPC c P T (de_var 2) (K.nm 1 (by decide)) (K.xt 1 (by decide))) (da_cons (de_isPC c P T (de_var 2) (K.nm 2 (by decide)) (K.xt 2 (by decide))) da_nil)))) nd)
      (dss_cons (ds_set (i := 3) (de_add c (de_var 3) (de_lst (da_cons (de_isPC c P T (de_var 2) (K.nm 3 (by decide)) (K.xt 3 (by decide))) (da_cons (de_isPC c P T (de_var 2) (K.nm 4 (by decide)) (K.xt 4 (by decide))) (da_cons (de_isPC c P T (de_var 2) (K.nm 5 (by decide)) (K.xt 5 (by decide))) da_nil))))) nd)
      (dss_cons (ds_set (i := 3) (de_add c (de_var 3) (de_lst (da_cons (de_isPC c P T (de_var 2) (K.nm 6 (by decide)) (K.xt 6 (by decide))) (da_cons (de_isPC c P T (de_var 2) (K.nm 7 (by decide)) (K.xt 7 (by decide))) (da_cons (de_isPC c P T (de_var 2) (K.nm 8 (by decide)) (K.xt 8 (by decide))) da_nil))))) nd)
      (dss_cons (ds_set (i := 3) (de_add c (de_var 3) (de_lst (da_cons (de_isPC c P T (de_var 2) (K.nm 9 (by decide)) (K.xt 9 (by decide))) (da_cons (de_isPC c P T (de_var 2) (K.nm 10 (by decide)) (K.xt 10 (by decide))) (da_cons (de_isPC c P T (de_var 2) (K.nm 11 (by decide)) (K.xt 11 (by decide))) da_nil))))) nd)
      (dss_cons (ds_set (i := 3) (de_add c (de_var 3) (de_lst (da_cons (de_isPC c P T (de_var 2) (K.nm 12 (by decide)) (K.xt 12 (by decide))) (da_cons (de_isPC c P T (de_var 2) (K.nm 13 (by decide)) (K.xt 13 (by decide))) (da_cons (de_isPC c P T (de_var 2) (K.nm 14 (by decide)) (K.xt 14 (by decide))) da_nil))))) nd)
      (dss_cons (ds_set (i := 3) (de_add c (de_var 3) (de_lst (da_cons (de_isPC c P T (de_var 2) (K.nm 15 (by decide)) (K.xt 15 (by decide))) (da_cons (de_isPC c P T (de_var 2) (K.nm 16 (by decide)) (K.xt 16 (by decide))) (da_cons (de_isPC c P T (de_var 2) (K.nm 17 (by decide)) (K.xt 17 (by decide))) da_nil))))) nd)
      (dss_cons (ds_set (i := 4) (de_lst (da_cons (de_isPC c P T (de_var 2) (K.nm 18 (by decide)) (K.xt 18 (by decide))) (da_cons (de_isPC c P T (de_var 2) (K.nm 19 (by decide)) (K.xt 19 (by decide))) (da_cons (de_isPC c P T (de_var 2) (K.nm 20 (by decide)) (K.xt 20 (by decide))) da_nil)))) nd)
      (dss_cons (ds_expr (de_append c 4 (de_isPC c P T (de_var 2) (K.nm 21 (by decide)) (K.xt 21 (by decide)))))
      (dss_cons (ds_set (i := 5) (de_lst (da_cons (de_isPB c P T (de_var 2) K.nValueError (by decide +kernel) (K.xb 0 (by decide))) (da_cons (de_isPB c P T (de_var 2) K.nLookupError (by decide +kernel) (K.xb 1 (by decide))) (da_cons (de_isPB c P T (de_var 2) K.nRuntimeError (by decide +kernel) (K.xb 2 (by decide))) da_nil)))) nd)
      (dss_cons (ds_expr (de_append c 5 (de_isPB c P T (de_var 2) K.nArithmeticError (by decide +kernel) (K.xb 3 (by decide)))))
      (dss_cons (ds_set (i := 6) (de_lst (da_cons de_str (da_cons de_str (da_cons de_str (da_cons de_str (da_cons de_str (da_cons de_str (da_cons de_str (da_cons de_str (da_cons de_str (da_cons de_str (da_cons de_str da_nil)))))))))))) nd)
      (dss_cons (ds_set (i := 6) (de_add c (de_var 6) (de_lst (da_cons de_str (da_cons de_str (da_cons de_str (da_cons de_str (da_cons de_str (da_cons de_str (da_cons de_str da_nil))))))))) nd)
      (dss_cons (ds_set (i := 7) (de_ifE (dt_eq c (de_cnt c (de_var 3) de_bl) de_int) (de_idx c (de_var 3) de_bl) de_int) nd)
      (dss_cons (ds_set (i := 8) (de_lst (da_cons (de_in c (de_var 7) (de_add c (de_lrH c P hh T de_int) (de_lst (da_cons de_int (da_cons de_int (da_cons de_int da_nil)))))) (da_cons (de_in c (de_var 7) (de_lst (da_cons de_int (da_cons de_int da_nil)))) (da_cons (de_eq c (de_var 7) de_int) (da_cons (de_eq c (de_var 7) de_int) da_nil))))) nd)
      (dss_cons (ds_if (dt_of (dw_or (dt_ne c (de_cnt c (de_var 3) de_bl) de_int) (dw_or (dt_ne c (de_var 4) (de_var 5)) (dw_or1 (dt_ne c (de_var 4) (de_var 8)))))) (dss_one (ds_ret (de_lst (da_cons de_str (da_cons de_str da_nil))))) dss_nil)
      (dss_one (ds_ret (de_lst (da_cons (de_itemV c 6 (de_var 7)) (da_cons (de_reprQ (g := gq) c hgd T (da_cons (de_callP F__law_field rm P Z__law_field.g Z__law_field.F.kp Z__law_field.b (da_cons (de_var 2) (da_cons (de_var 7) da_nil))) da_nil)) da_nil))))))))))))))))))))⟩, ?_⟩
  rintro a d ⟨i, v⟩ fs xs R hi hf hr
  have hi : i < 18 := hi
  refine isS hi rfl rfl rfl rfl ?_
  refine isS hi rfl rfl rfl rfl ?_
  refine isS hi rfl rfl rfl rfl ?_
  refine ⟨leN rfl, fun _ => ?_⟩
  refine ⟨ltR rfl, ?_⟩
  refine toE (ρ' := [_, _, _, _, _, _, _, _, _]) rfl ?_
  refine isS hi rfl rfl rfl rfl ?_
  refine isS hi rfl rfl rfl rfl ?_
  refine isS hi rfl rfl rfl rfl ?_
  refine ⟨leN rfl, fun _ => ?_⟩
  refine ⟨leN rfl, fun _ => ?_⟩
  refine ⟨ltR rfl, ?_⟩
  refine toE (ρ' := [_, _, _, _, _, _, _, _, _]) rfl ?_
  refine isS hi rfl rfl rfl rfl ?_
  refine isS hi rfl rfl rfl rfl ?_
  refine isS hi rfl rfl rfl rfl ?_
  refine ⟨leN rfl, fun _ => ?_⟩
  refine ⟨leN rfl, fun _ => ?_⟩
  refine ⟨ltR rfl, ?_⟩
  refine toE (ρ' := [_, _, _, _, _, _, _, _, _]) rfl ?_
  refine isS hi rfl rfl rfl rfl ?_
  refine isS hi rfl rfl rfl rfl ?_
  refine isS hi rfl rfl rfl rfl ?_
  refine ⟨leN rfl, fun _ => ?_⟩
  refine ⟨leN rfl, fun _ => ?_⟩
  refine ⟨ltR rfl, ?_⟩
  refine toE (ρ' := [_, _, _, _, _, _, _, _, _]) rfl ?_
  refine isS hi rfl rfl rfl rfl ?_
  refine isS hi rfl rfl rfl rfl ?_
  refine isS hi rfl rfl rfl rfl ?_
  refine ⟨leN rfl, fun _ => ?_⟩
  refine ⟨leN rfl, fun _ => ?_⟩
  refine ⟨ltR rfl, ?_⟩
  refine toE (ρ' := [_, _, _, _, _, _, _, _, _]) rfl ?_
  refine isS hi rfl rfl rfl rfl ?_
  refine isS hi rfl rfl rfl rfl ?_
  refine isS hi rfl rfl rfl rfl ?_
  refine ⟨leN rfl, fun _ => ?_⟩
  refine ⟨leN rfl, fun _ => ?_⟩
  refine ⟨ltR rfl, ?_⟩
  refine toE (ρ' := [_, _, _, _, _, _, _, _, _]) rfl ?_
  refine isB hi rfl rfl rfl rfl ?_
  refine isB hi rfl rfl rfl rfl ?_
  refine isB hi rfl rfl rfl rfl ?_
  refine ⟨leN rfl, fun _ => ?_⟩
  refine ⟨ltR rfl, ?_⟩
  refine toE (ρ' := [_, _, _, _, _, _, _, _, _]) rfl ?_
  refine ⟨⟨_, _, rfl⟩, ?_⟩
  refine isB hi rfl rfl rfl rfl ?_
  refine ⟨ltZ rfl, ?_⟩
  refine toE (ρ' := [_, _, _, _, _, _, _, _, _]) rfl ?_
  refine isP hi rfl rfl rfl ?_
  refine isP hi rfl rfl rfl ?_
  refine isP hi rfl rfl rfl ?_
  refine ⟨leN rfl, fun _ => ?_⟩
  refine ⟨ltR rfl, ?_⟩
  refine toE (ρ' := [_, _, _, _, _, _, _, _, _]) rfl ?_
  refine ⟨⟨_, _, rfl⟩, ?_⟩
  refine isP hi rfl rfl rfl ?_
  refine ⟨ltZ rfl, ?_⟩
  refine toE (ρ' := [_, _, _, _, _, _, _, _, _]) rfl ?_
  refine ⟨leN rfl, fun _ => ?_⟩
  refine ⟨ltR rfl, ?_⟩
  refine toE (ρ' := [_, _, _, _, _, _, _, _, _]) rfl ?_
  refine ⟨leN rfl, fun _ => ?_⟩
  refine ⟨leN rfl, fun _ => ?_⟩
  refine ⟨ltR rfl, ?_⟩
  refine toE (ρ' := [_, _, _, _, _, _, _, _, _]) rfl ?_
  have e1 : (i, v).fst = i := rfl
  refine toE (ρ' := [none, none, some (.d (.exc a i d fs xs)), some (.m _ (.lst (sortL i))), some (.m _ (.lst (basL i))), some (.m _ (.lst (basL i))), some (.m _ (.lst wdsL)), none, none]) rfl ?_
  dsimp only
  refine q_seq (q_set (q_ifE (q_tst (q_bin (cnt_m (i := 3) rfl (sort_b i) ?_)))))
  refine ⟨okP_int, okP_int, ifT (sort_1 hi) ?_⟩
  refine idx_d (i := 3) rfl (sort_b i) (sort_i i hi) ⟨ltR rfl, ?_⟩
  refine toE (ρ' := [none, none, some (.d (.exc a i d fs xs)), some (.d (.lst (sortL i))), some (.m _ (.lst (basL i))), some (.m _ (.lst (basL i))), some (.m _ (.lst wdsL)), some (.d (.int (i : Nat))), none]) rfl ?_
  refine ⟨⟨by decide, by decide⟩, fun _ => ?_⟩
  refine ⟨leN rfl, fun _ => ?_⟩
  refine ⟨leN rfl, fun _ => ?_⟩
  refine ⟨okP_int, by decide +kernel, ?_⟩
  refine ⟨leN rfl, fun _ => ?_⟩
  refine ⟨okP_int, by decide +kernel, ?_⟩
  refine ⟨okP_int, okP_int, ?_⟩
  refine ⟨okP_int, okP_int, ?_⟩
  refine ⟨leN rfl, fun _ => ?_⟩
  refine ⟨ltR rfl, ?_⟩
  refine toE (ρ' := [none, none, some (.d (.exc a i d fs xs)), some (.d (.lst (sortL i))), some (.m _ (.lst (basL i))), some (.m _ (.lst (basL i))), some (.m _ (.lst wdsL)), some (.d (.int (i : Nat))), some (.m _ (.lst (basL i)))]) (due_eq hi) ?_
  dsimp only
  refine q_seq (q_if (q_or (q_tst (q_bin (cnt_d (i := 3) rfl (sort_b i) ?_)))))
  refine ⟨okP_int, okP_int, ifF (sort_2 hi) ?_⟩
  refine ⟨okP_bas i, okP_bas i, ifF (bas_eq i hi) ?_⟩
  refine ⟨okP_bas i, okP_bas i, ifF (bas_eq i hi) ?_⟩
  refine ⟨⟨_, rfl⟩, ?_⟩
  refine opt_ok (atI_nat (wds_at i hi)) ?_
  refine ⟨rfl, i, fs, xs, rfl, rfl, hi, ?_⟩
  have key : ∀ y : D, gRepr gq [y] (fun s => ∃ z, s = .d (.str z) ∧ ∀ p, R (.m p (.lst [.str (wdn i), .str z]))) → lift1 (gRepr gq) [.d y] (fun z => match dats [.d (.str (wdn i)), z] with
    | some ds => ds.length ≤ sizeLine ∧ ∀ p, R (.m p (.lst ds))
    | none => False) := fun y h => gRepr_mono (fun s hs => by
      obtain ⟨z, rfl, hz⟩ := hs
      exact ⟨leN rfl, hz⟩) h
  by_cases h17 : i = 17
  · have hr : gRepr gq [.non] (fun s => ∃ z, s = .d (.str z) ∧ ∀ p, R (.m p (.lst [.str (wdn i), .str z]))) := by
      have z := hr
      dsimp only at z
      rw [if_pos h17] at z
      exact z
    exact .inl ⟨h17, key .non hr⟩
  · have hr : gRepr gq [v] (fun s => ∃ z, s = .d (.str z) ∧ ∀ p, R (.m p (.lst [.str (wdn i), .str z]))) := by
      have z := hr
      dsimp only at z
      rw [if_neg h17] at z
      exact z
    obtain ⟨f, hf1⟩ : ∃ f, xfN i = some f := by
      unfold xfN
      rw [if_neg h17]
      split
      · exact ⟨_, rfl⟩
      · split <;> exact ⟨_, rfl⟩
    obtain ⟨rfl, rfl, h3⟩ := hf f hf1
    exact .inr ⟨f, v, hf1, rfl, rfl, h3, key v hr⟩
end
end QL
set_option Elab.async false
set_option linter.all false
set_option maxRecDepth 100000
set_option maxHeartbeats 4000000
namespace QL
open PySem L2
open PySem.W (Frag)
section
variable {P : Program} {w : World} {G : Gw} {mg : Str → Option Value} {base : Heap} {k : Nat} {gq : Bool} {g : Addr} {cdg : Value} {A : Around} {stack : List PySem.Env} {q : Str} {fF : Addr} {dF : FuncData}
theorem caught_gives (T : Bn mg) (K : ErrK G mg) (Z__law_field : DefAt G.W.K mg "_law_field" s__law_field fF dF ["_law_e", "_law_at"]) (hgd : gq = true → A.guards = some []) :
    GivesN P w G.W.K mg base A stack q n__law_caught "_law_caught" (defScope s__law_caught) g cdg (defBody s__law_caught) "_law_act" (k + 1) (TTc G (gCap gq)) := by
  intro f c' s H Q tl hr act hc hTT
  obtain ⟨Γ, Rv, Rx, htl, hgiv, hrai⟩ := hTT
  obtain ⟨r, hsu, hrd⟩ := caught_suite (P := P) (w := w) (base := base) (k := k) (gq := gq) (f := g) (cdv := cdg) (A := A) (outer := stack) (s := s) (H := H) T K Z__law_field
  have nd := sc__law_caught.nd
  have un : A.units + 3 + 200 < cLine := by
    have := hr.un
    have e : (A.deeper (PyProof.Rows.envOfC "_law_caught" (defScope s__law_caught) s.heap.objs.size g cdg)).units = A.units + 3 := rfl
    omega
  refine ⟨_, pss_cons (ps_try_tup (X := cxOf (L2N.CX P w) P w G.W.K mg base n__law_caught "_law_caught" (defScope s__law_caught) g cdg A stack s H E0) (i := 2) (c1 := .ref (G.W.CA 18)) (c2 := .ref (G.W.CA 19)) (c3 := .ref (G.W.CA 20)) (c4 := .ref (G.W.CA 21))
      (tb := fun W D σ H => ∃ Ech : XK, (∀ cls d σ' H', Ech cls d H' → W cls d σ' H') ∧ σ[0]? = some (some (.ref f)) ∧ H c' = some (LamX.CodeO c' (q ++ "<lambda>")) ∧ tl Ech H (fun v H' => D.nx (σ.set 1 (some v)) H')) (ts := fun a cls d => tPureS G (r a cls d) E0)
      rfl rfl nd rfl rfl ⟨rfl, by decide, .inl (K.nm 18 (by decide))⟩ ⟨rfl, by decide, .inl (K.nm 19 (by decide))⟩ ⟨rfl, by decide, .inl (K.nm 20 (by decide))⟩ ⟨rfl, by decide, .inl (K.nm 21 (by decide))⟩ (fun W pn xe tk po => ⟨fun pins s' σ H' D I h' => ?_⟩) (fun a oe cls d pn hz hf => ?_))
    (DSs.pure (G := G) (E := E0) (dss_one (ds_ret (de_lst (da_cons de_str (da_cons (de_var 1) da_nil)))))), ?_⟩
  · obtain ⟨Ech, hW, h1, h2, h3⟩ := h'
    exact (pss_one (ps_set (i := 1) nd rfl (.inl rfl) (act W pn xe Ech _ _ tk hW))).run pins s' σ H' D I ⟨h1, h2, h3⟩
  · obtain ⟨t, hd⟩ := hsu a oe cls d pn ⟨rfl, by show A.units + 3 + 200 < _; exact un⟩ ⟨oe, List.mem_cons_self, hz, hf⟩ rfl ⟨hr.dp, hr.un⟩ hgd (p_field Z__law_field.F T K)
    exact hd.pure
  · have hn : n__law_caught.length = 9 := rfl
    refine ⟨fun cls d H' => ∃ x, XH G.W G.XF H' Γ cls d x ∧ Rx x, fun cls d σ' H' hx hlen => ?_, rfl, hc, htl _ fun v x H' hh rv => ?_⟩
    · obtain ⟨x, hx, rx⟩ := hx
      obtain ⟨h18, hrp⟩ := hrai x rx
      have hcls := hx.cls
      subst hcls
      refine ⟨K.exm x.1 h18, fun a na => ?_⟩
      obtain ⟨fs, xs, re, hf⟩ := rep_exc (a := a) (i := 2) (n := 9) hlen (by decide) hx
      refine ⟨_, Γ, { nx := fun _ => False, rt := fun s _ => ∃ y, s.dat = some y ∧ ∀ v H', Hold G.W H' ((v, .d y) :: Γ) → Q v H', ex := fun _ => False }, re, hrd a d x fs xs (fun s => ∃ y, s.dat = some y ∧ ∀ v H', Hold G.W H' ((v, .d y) :: Γ) → Q v H') h18 (fun f h => hf f (by rw [K.xf _ h18]; exact h)) (gRepr_mono (fun s hs => ?_) hrp), ⟨fun _ _ _ _ z => z.elim, fun σ2 H2 ρ2 v s2 r2 h2 => ?_, fun _ _ _ _ z => z.elim, fun _ _ _ _ z => z.elim, fun _ _ _ _ _ z => z.elim⟩⟩
      · obtain ⟨z, rfl, hz⟩ := hs
        exact ⟨z, rfl, fun p => ⟨_, rfl, hz⟩⟩
      · obtain ⟨y, hy, hq⟩ := h2
        exact hq v H2 (r2.dat hy).low
    · have re : Rep G.W ((L2.start n__law_caught [V.ref f]).set 1 (some v)) H' ((List.replicate 9 none).set 1 (some (.d x))) Γ := Rep.set (rep_none rfl hh) (by decide)
      refine ⟨_, Γ, { nx := fun _ => False, rt := fun s _ => ∃ y, s.dat = some y ∧ ∀ v H', Hold G.W H' ((v, .d y) :: Γ) → Q v H', ex := fun _ => False }, re, ⟨leN rfl, fun p => ⟨_, rfl, hgiv x rv⟩⟩, ⟨fun _ _ _ _ z => z.elim, fun σ2 H2 ρ2 v s2 r2 h2 => ?_, fun _ _ _ _ z => z.elim, fun _ _ _ _ z => z.elim, fun _ _ _ _ _ z => z.elim⟩⟩
      obtain ⟨y, hy, hq⟩ := h2
      exact hq v H2 (r2.dat hy).low
end
end QL
set_option Elab.async false
set_option linter.all false
set_option maxRecDepth 100000
set_option maxHeartbeats 4000000
namespace QL
open PySem L2
open PySem.W (Frag)
/-! ### kinds of values -/
def tyD : D → Option String
  | .non => some "NoneType"
  | .bl _ => some "bool"
  | .int _ => some "int"
  | .str _ => some "str"
  | .tup _ => some "tuple"
  | .lst _ => some "list"
  | .dk _ _ => some "dict"
  | .dt _ _ => some "dict"
  | .ins _ _ _ _ => some "object"
  | .rf _ => none
  | .scr _ => some "list"
  | .exc _ _ _ _ _ => none
/-- the classes of instances that are about: from 22 on -/
def ciT (C c : Nat) : Option Bool := if 22 ≤ c ∧ c < 60 then some (c == C) else none
def knD : D → Bool
  | .ins c _ _ _ => decide (22 ≤ c ∧ c < 60)
  | .rf _ => false
  | .exc _ _ _ _ _ => false
  | _ => true
structure IsiK (G : Gw) : Prop where
  int : IsiOk G.W (.type "int") (kbT "int") (ciT 0)
  boo : IsiOk G.W (.type "bool") (kbT "bool") (ciT 0)
  str : IsiOk G.W (.type "str") (kbT "str") (ciT 0)
  tup : IsiOk G.W (.type "tuple") (kbT "tuple") (ciT 0)
  lst : IsiOk G.W (.type "list") (kbT "list") (ciT 0)
def isT (T : String) (x : D) : Bool := match tyD x with
  | some t => t == T || (t == "bool" && T == "int")
  | none => false
theorem isi_T {T : String} {x : D} (h : knD x = true) (hT : T ≠ "object" := by decide) : isiD (kbT T) (ciT 0) x = some (isT T x) := by
  cases x with
  | ins c ns xs =>
    have h : 22 ≤ c ∧ c < 60 := of_decide_eq_true h
    show ciT 0 c = some (("object" == T) || ("object" == "bool" && T == "int"))
    unfold ciT
    rw [if_pos h]
    have h1 : (c == 0) = false := beq_eq_false_iff_ne.mpr (by omega)
    have h2 : (("object" : String) == T) = false := beq_eq_false_iff_ne.mpr (Ne.symm hT)
    rw [h1, h2]
    rfl
  | exc _ _ _ _ _ => cases h
  | rf _ => cases h
  | _ => rfl
theorem isi_ok {f : D → Option Bool} {b : Bool} {x : D} {P : Bool → Prop} (e : f x = some b) (h : P b) : (match f x with | some b => P b | none => False) := by rw [e]; exact h
def isIntD : D → Bool
  | .int _ => true
  | _ => false
theorem isInt_eq (x : D) : (isT "int" x && !isT "bool" x) = isIntD x := by
  cases x <;> rfl
abbrev s_is_integer : Stmt := top 30
abbrev n_is_integer : List Str := ["value"]
theorem sc_is_integer : FnScope n_is_integer ["value"] (defScope s_is_integer) := ⟨rfl, rfl, rfl, by decide +kernel, rfl, by decide +kernel, by decide +kernel⟩
abbrev s__law_is_whole : Stmt := top 55
abbrev n__law_is_whole : List Str := ["_law_thing"]
theorem sc__law_is_whole : FnScope n__law_is_whole ["_law_thing"] (defScope s__law_is_whole) := ⟨rfl, rfl, rfl, by decide +kernel, rfl, by decide +kernel, by decide +kernel⟩
def psInt : PSp := fun ss R _ => ∃ x, ss = [.d x] ∧ knD x = true ∧ R (.d (.bl (isIntD x))) []
section
variable {P : Program} {w : World} {G : Gw} {mg : Str → Option Value} {base : Heap} {k : Nat} {f : Addr} {fd : FuncData}
theorem p_int (F : Fun G.W.K "is_integer" "is_integer" s_is_integer f fd) (T : Bn mg) (IK : IsiK G) : FnOk P w G.W.K mg base (L2N.CX P w) (k + 1) f fd ["value"] (toSp G 1 psInt) := by
  have I_int := IK.int
  have I_bool := IK.boo
  refine fn_pure F sc_is_integer (by decide) fun cdv A outer s H E c => ⟨_, _, (dss_one (ds_ret (de_and (de_isB c T (de_var 0) T.int (by decide +kernel) I_int) (de_one (de_not (de_isB c T (de_var 0) T.boo (by decide +kernel) I_bool)))))), fun ss R e hsp hl => ?_⟩
  obtain ⟨x, rfl, hk, hR⟩ := hsp
  rw [← isInt_eq] at hR
  refine isi_ok (isi_T hk) ?_
  cases h1 : isT "int" x with
  | false => rw [h1] at hR; exact hR
  | true =>
    rw [h1] at hR
    exact isi_ok (isi_T hk) hR
theorem p_whole (F : Fun G.W.K "_law_is_whole" "_law_is_whole" s__law_is_whole f fd) (T : Bn mg) (IK : IsiK G) : FnOk P w G.W.K mg base (L2N.CX P w) (k + 1) f fd ["_law_thing"] (toSp G 1 psInt) := by
  have I_int := IK.int
  have I_bool := IK.boo
  refine fn_pure F sc__law_is_whole (by decide) fun cdv A outer s H E c => ⟨_, _, (dss_one (ds_ret (de_and (de_isB c T (de_var 0) T.int (by decide +kernel) I_int) (de_one (de_not (de_isB c T (de_var 0) T.boo (by decide +kernel) I_bool)))))), fun ss R e hsp hl => ?_⟩
  obtain ⟨x, rfl, hk, hR⟩ := hsp
  rw [← isInt_eq] at hR
  refine isi_ok (isi_T hk) ?_
  cases h1 : isT "int" x with
  | false => rw [h1] at hR; exact hR
  | true =>
    rw [h1] at hR
    exact isi_ok (isi_T hk) hR
end
end QL
set_option Elab.async false
set_option linter.all false
set_option maxRecDepth 100000
set_option maxHeartbeats 4000000
namespace QL
open PySem L2
open PySem.W (Frag)
def nameD : D → Bool
  | .str z => nameS z
  | _ => false
theorem isStr {x : D} (h : isT "str" x = true) : ∃ z, x = .str z := by
  cases x with
  | str z => exact ⟨z, rfl⟩
  | _ => cases h
theorem noStr {x : D} (h : isT "str" x = false) : nameD x = false := by
  cases x with
  | str z => cases h
  | _ => rfl
theorem q_not {ρ : Env} {e : XD → Prop} {r : RT} {R : Bool → Env → Prop} (h : r ρ (fun b ρ' => R (!b) ρ') e) : rNot r ρ R e := h
theorem chain_len {p q : Int → Int → Bool} {i : Nat} {z : Str} {a c : Int} {ρ : Env} {R : S → Env → Prop} {e : XD → Prop} (h : ρ[i]? = some (some (.d (.str z)))) (k : R (.d (.bl (p a (z.length : Nat) && q (z.length : Nat) c))) ρ) :
    rChain (lift2 (gI fun i j => D.bl (p i j))) (lift2 (gI fun i j => D.bl (q i j))) (rC (.int a)) (rLenV i) (rC (.int c)) ρ R e := by
  unfold rChain rC rLenV
  dsimp only
  rw [h]
  show (match (S.d (.bl (p a (z.length : Nat))) : S) with
    | .d (.bl true) => _
    | .d (.bl false) => _
    | _ => False)
  cases h1 : p a (z.length : Nat) with
  | true => rw [h1] at k; exact k
  | false => rw [h1] at k; exact k
abbrev s_is_name : Stmt := top 32
abbrev n_is_name : List Str := ["value", "sign"]
theorem sc_is_name : FnScope n_is_name ["value"] (defScope s_is_name) := ⟨rfl, rfl, rfl, by decide +kernel, rfl, by decide +kernel, by decide +kernel⟩
def psName : PSp := fun ss R _ => ∃ x, ss = [.d x] ∧ knD x = true ∧ R (.d (.bl (nameD x))) []
section
variable {P : Program} {w : World} {G : Gw} {mg : Str → Option Value} {base : Heap} {k : Nat} {f : Addr} {fd : FuncData} {t1 t2 t3 : Tok}
theorem p_name (F : Fun G.W.K "is_name" "is_name" s_is_name f fd) (T : Bn mg) (IK : IsiK G) (m_LETTERS : mg "LETTERS" = some (.str lets t1)) (m_SIGNS : mg "SIGNS" = some (.str sgns t2)) (m_MAX_LENGTH : mg "MAX_LENGTH" = some (.int 8 t3)) : FnOk P w G.W.K mg base (L2N.CX P w) (k + 1) f fd ["value"] (toSp G 1 psName) := by
  have I_str := IK.str
  refine fn_pure F sc_is_name (by decide) fun cdv A outer s H E c => ⟨_, _, (dss_cons (ds_if (dt_of (dw_or (dt_not (dt_val (de_isB c T (de_var 0) T.str (by decide +kernel) I_str))) (dw_or1 (dt_not (dt_chain op_le op_le bvLe bvLe de_int (de_lenV c T 0) (de_globI m_MAX_LENGTH)))))) (dss_one (ds_ret de_bl)) dss_nil)
      (dss_one (ds_ret (de_and (de_in c (de_itemV c 0 de_int) (de_globS m_LETTERS)) (de_one (de_all c T (da_cons (de_lc (own := [("sign", 1)]) c (di_seq c (de_var 0)) (blkOk_by (N := n_is_name) (sc := defScope s_is_name) (by decide +kernel)) (fun _ _ _ _ _ => (dg_name 1 c.nd)) (fun _ _ _ _ _ => dts_nil) (fun _ _ _ _ _ => (de_in c.blkq (de_var 1) (de_globS m_SIGNS)))) da_nil))))))), fun ss R e hsp hl => ?_⟩
  obtain ⟨x, rfl, hk, hR⟩ := hsp
  refine isi_ok (isi_T hk) ?_
  cases h1 : isT "str" x with
  | false => rw [noStr h1] at hR; exact hR
  | true =>
    obtain ⟨z, rfl⟩ := isStr h1
    refine ifF rfl (q_not (q_tst (chain_len (p := fun i j => decide (i ≤ j)) (q := fun i j => decide (i ≤ j)) (i := 0) rfl ?_)))
    dsimp only
    have e1 : nameD (.str z) = nameS z := rfl
    rw [e1] at hR
    unfold nameS at hR
    cases h2 : (decide ((1 : Int) ≤ (z.length : Nat)) && decide (((z.length : Nat) : Int) ≤ 8)) with
    | false =>
      have e2 : (decide (1 ≤ z.length) && decide (z.length ≤ 8)) = false := by
        rw [← h2]
        congr 1 <;> exact decide_eq_decide.mpr (by omega)
      rw [e2] at hR
      exact hR
    | true =>
      have e2 : (decide (1 ≤ z.length) && decide (z.length ≤ 8)) = true := by
        rw [← h2]
        congr 1 <;> exact decide_eq_decide.mpr (by omega)
      rw [e2] at hR
      have hz : 1 ≤ z.length ∧ z.length ≤ 8 := by
        rw [Bool.and_eq_true] at e2
        exact ⟨of_decide_eq_true e2.1, of_decide_eq_true e2.2⟩
      rw [Bool.true_and] at hR
      obtain ⟨c1, cs1, hcs⟩ : ∃ c cs, z.cps.toList = c :: cs := by
        cases h : z.cps.toList with
        | nil =>
          have := hz.1
          rw [len_cps, h] at this
          exact absurd this (by decide)
        | cons c cs => exact ⟨c, cs, rfl⟩
      have hh : z.cps.toList.head?.any (inS lets) = inS lets c1 := by
        rw [hcs]
        rfl
      rw [hh] at hR
      refine ifF rfl ⟨⟨_, rfl⟩, opt_ok (atI_nat (j := 0) (show z.cps.toList[0]? = some c1 by rw [hcs]; rfl)) ?_⟩
      have hb : ∀ (z' : Str) (c : Nat), (decide (c ∈ z'.cps.toList) != false) = inS z' c := fun z' c => bneF _
      cases h3 : inS lets c1 with
      | false =>
        rw [h3] at hR
        exact ifF (show (decide (c1 ∈ lets.cps.toList) != false) = false by rw [hb]; exact h3) hR
      | true =>
        rw [h3, Bool.true_and] at hR
        refine ifT (show (decide (c1 ∈ lets.cps.toList) != false) = true by rw [hb]; exact h3) ⟨?_, fun p => ?_⟩
        · unfold signs
          rw [List.length_map, ← len_cps, sizeLine_eq]
          omega
        refine lcR_ind (fun done acc ρ => ∃ cs : List Nat, done = cs.map (fun c => D.str (sg c)) ∧ acc = cs.map (fun c => D.bl (inS sgns c)) ∧ ∃ x1, ρ = [some (.d (.str z)), x1]) ⟨[], rfl, rfl, none, rfl⟩ ?_ ?_
        · rintro K done x rest acc ρ eds ⟨cs, rfl, rfl, x1, rfl⟩ hK
          obtain ⟨c2, hx⟩ : ∃ c, x = D.str (sg c) := by
            have hm : x ∈ signs z := by rw [eds]; exact List.mem_append_right _ List.mem_cons_self
            obtain ⟨c, _, e⟩ := List.mem_map.mp hm
            exact ⟨c, e.symm⟩
          subst hx
          refine ⟨ltR rfl, opt_ok rfl (hK _ _ ⟨cs ++ [c2], by rw [List.map_append]; rfl, ?_, some (.d (.str (sg c2))), rfl⟩)⟩
          rw [List.map_append, hb]
          rfl
        · rintro acc ρ ⟨cs, h4, rfl, x1, rfl⟩
          have h5 : cs = z.cps.toList := by
            have z1 : (z.cps.toList.map fun c => D.str (sg c)) = cs.map fun c => D.str (sg c) := h4
            have inj : ∀ {l m : List Nat}, (l.map fun c => D.str (sg c)) = m.map (fun c => D.str (sg c)) → m = l := fun {l m} h => by
              induction l generalizing m with
              | nil => cases m with
                | nil => rfl
                | cons a m => cases h
              | cons a l ih =>
                cases m with
                | nil => cases h
                | cons b m =>
                  rw [List.map_cons, List.map_cons] at h
                  injection h with h1 h2
                  injection h1 with h1
                  injection h1 with h1
                  injection h1 with h1
                  injection h1 with h1
                  rw [ih h2, h1]
            exact inj z1
          subst h5
          have bl : ∀ l : List Nat, blsD (l.map fun c => D.bl (inS sgns c)) = some (l.map (inS sgns)) := fun l => by
            induction l with
            | nil => rfl
            | cons a l ih =>
              rw [List.map_cons]
              unfold blsD
              rw [ih]
              rfl
          refine opt_ok (bl _) ?_
          have e6 : (z.cps.toList.map (inS sgns)).all id = z.cps.toList.all (inS sgns) := by rw [List.all_map]; rfl
          rw [e6]
          exact hR
end
end QL
set_option Elab.async false
set_option linter.all false
set_option maxRecDepth 100000
set_option maxHeartbeats 4000000
namespace QL
open PySem L2
open PySem.W (Frag)
theorem sg_inj : ∀ {l m : List Nat}, (l.map fun c => D.str (sg c)) = m.map (fun c => D.str (sg c)) → m = l
  | [], [], _ => rfl
  | [], _ :: _, h => by cases h
  | _ :: _, [], h => by cases h
  | a :: l, b :: m, h => by
    rw [List.map_cons, List.map_cons] at h
    injection h with h1 h2
    injection h1 with h1
    injection h1 with h1
    injection h1 with h1
    injection h1 with h1
    rw [sg_inj h2, h1]
theorem bls_map (f : Nat → Bool) : ∀ l : List Nat, blsD (l.map fun c => D.bl (f c)) = some (l.map f)
  | [] => rfl
  | a :: l => by
    rw [List.map_cons]
    unfold blsD
    rw [bls_map f l]
    rfl
theorem sgns_eq : lets ++ ("0123456789" : Str) = sgns := by decide +kernel
abbrev s__law_is_tag : Stmt := top 54
abbrev n__law_is_tag : List Str := ["_law_thing", "_law_small", "_law_sign"]
theorem sc__law_is_tag : FnScope n__law_is_tag ["_law_thing"] (defScope s__law_is_tag) := ⟨rfl, rfl, rfl, by decide +kernel, rfl, by decide +kernel, by decide +kernel⟩
section
variable {P : Program} {w : World} {G : Gw} {mg : Str → Option Value} {base : Heap} {k : Nat} {f : Addr} {fd : FuncData}
theorem p_istag (F : Fun G.W.K "_law_is_tag" "_law_is_tag" s__law_is_tag f fd) (T : Bn mg) (IK : IsiK G) : FnOk P w G.W.K mg base (L2N.CX P w) (k + 1) f fd ["_law_thing"] (toSp G 1 psName) := by
  have I_str := IK.str
  refine fn_pure F sc__law_is_tag (by decide) fun cdv A outer s H E c => ⟨_, _, (dss_cons (ds_if (dt_of (dw_or (dt_not (dt_val (de_isB c T (de_var 0) T.str (by decide +kernel) I_str))) (dw_or1 (dt_not (dt_chain op_lt op_lt bvLt bvLt de_int (de_lenV c T 0) de_int))))) (dss_one (ds_ret de_bl)) dss_nil)
      (dss_cons (ds_set (i := 1) de_str c.nd)
      (dss_one (ds_ret (de_and (de_inV c 1 (de_itemV c 0 de_int)) (de_one (de_all c T (da_cons (de_lc (own := [("_law_sign", 2)]) c (di_seq c (de_var 0)) (blkOk_by (N := n__law_is_tag) (sc := defScope s__law_is_tag) (by decide +kernel)) (fun _ _ _ _ _ => (dg_name 2 c.nd)) (fun _ _ _ _ _ => dts_nil) (fun _ _ _ _ _ => (de_in c.blkq (de_var 2) (de_add c.blkq (de_var 1) de_str)))) da_nil)))))))), fun ss R e hsp hl => ?_⟩
  obtain ⟨x, rfl, hk, hR⟩ := hsp
  refine isi_ok (isi_T hk) ?_
  cases h1 : isT "str" x with
  | false => rw [noStr h1] at hR; exact hR
  | true =>
    obtain ⟨z, rfl⟩ := isStr h1
    refine ifF rfl (q_not (q_tst (chain_len (p := fun i j => decide (i < j)) (q := fun i j => decide (i < j)) (i := 0) rfl ?_)))
    dsimp only
    have e1 : nameD (.str z) = nameS z := rfl
    rw [e1] at hR
    unfold nameS at hR
    cases h2 : (decide ((0 : Int) < (z.length : Nat)) && decide (((z.length : Nat) : Int) < 9)) with
    | false =>
      have e2 : (decide (1 ≤ z.length) && decide (z.length ≤ 8)) = false := by
        rw [← h2]
        congr 1 <;> exact decide_eq_decide.mpr (by omega)
      rw [e2] at hR
      exact hR
    | true =>
      have e2 : (decide (1 ≤ z.length) && decide (z.length ≤ 8)) = true := by
        rw [← h2]
        congr 1 <;> exact decide_eq_decide.mpr (by omega)
      rw [e2] at hR
      have hz : 1 ≤ z.length ∧ z.length ≤ 8 := by
        rw [Bool.and_eq_true] at e2
        exact ⟨of_decide_eq_true e2.1, of_decide_eq_true e2.2⟩
      rw [Bool.true_and] at hR
      obtain ⟨c1, cs1, hcs⟩ : ∃ c cs, z.cps.toList = c :: cs := by
        cases h : z.cps.toList with
        | nil =>
          have := hz.1
          rw [len_cps, h] at this
          exact absurd this (by decide)
        | cons c cs => exact ⟨c, cs, rfl⟩
      have hh : z.cps.toList.head?.any (inS lets) = inS lets c1 := by
        rw [hcs]
        rfl
      rw [hh] at hR
      have hb : ∀ (z' : Str) (c : Nat), (decide (c ∈ z'.cps.toList) != false) = inS z' c := fun z' c => bneF _
      refine ifF rfl ⟨ltR rfl, ⟨_, rfl⟩, ⟨⟨_, rfl⟩, opt_ok (atI_nat (j := 0) (show z.cps.toList[0]? = some c1 by rw [hcs]; rfl)) ?_⟩⟩
      cases h3 : inS lets c1 with
      | false =>
        rw [h3] at hR
        exact ifF (show (decide (c1 ∈ lets.cps.toList) != false) = false by rw [hb]; exact h3) hR
      | true =>
        rw [h3, Bool.true_and] at hR
        refine ifT (show (decide (c1 ∈ lets.cps.toList) != false) = true by rw [hb]; exact h3) ⟨?_, fun p => ?_⟩
        · unfold signs
          rw [List.length_map, ← len_cps, sizeLine_eq]
          omega
        refine lcR_ind (fun done acc ρ => ∃ cs : List Nat, done = cs.map (fun c => D.str (sg c)) ∧ acc = cs.map (fun c => D.bl (inS sgns c)) ∧ ∃ x1, ρ = [some (.d (.str z)), some (.d (.str lets)), x1]) ⟨[], rfl, rfl, none, rfl⟩ ?_ ?_
        · rintro K done x rest acc ρ eds ⟨cs, rfl, rfl, x1, rfl⟩ hK
          obtain ⟨c2, hx⟩ : ∃ c, x = D.str (sg c) := by
            have hm : x ∈ signs z := by rw [eds]; exact List.mem_append_right _ List.mem_cons_self
            obtain ⟨c, _, e⟩ := List.mem_map.mp hm
            exact ⟨c, e.symm⟩
          subst hx
          refine ⟨ltR rfl, Nat.le_of_ble_eq_true (by decide +kernel), opt_ok rfl (hK _ _ ⟨cs ++ [c2], by rw [List.map_append]; rfl, ?_, some (.d (.str (sg c2))), rfl⟩)⟩
          rw [List.map_append, hb]
          show _ ++ [D.bl (inS (lets ++ ("0123456789" : Str)) c2)] = _
          rw [sgns_eq]
          rfl
        · rintro acc ρ ⟨cs, h4, rfl, x1, rfl⟩
          have h5 : cs = z.cps.toList := sg_inj (show (z.cps.toList.map fun c => D.str (sg c)) = cs.map fun c => D.str (sg c) from h4)
          subst h5
          refine opt_ok (bls_map _ _) ?_
          have e6 : (z.cps.toList.map (inS sgns)).all id = z.cps.toList.all (inS sgns) := by rw [List.all_map]; rfl
          rw [e6]
          exact hR
end
end QL
set_option Elab.async false
set_option linter.all false
set_option maxRecDepth 100000
set_option maxHeartbeats 4000000
namespace QL
open PySem L2
open PySem.W (Frag)
def isNon : D → Bool
  | .non => true
  | _ => false
section
variable {d : Rd} {ρ : Env} {R : S → Env → Prop} {e : XD → Prop} {i j : Nat} {xs : List D} {x : D}
theorem rv_d {x : D} (h : ρ[i]? = some (some (.d x))) (k : R (.d x) ρ) : rVar i ρ R e := by
  unfold rVar
  rw [h]
  exact k
theorem rv_m {a : Addr} {m : M} {x : D} (h : ρ[i]? = some (some (.m a m))) (hm : m.toD a = some x) (k : R (.d x) (ρ.set i (some (.d x)))) : rVar i ρ R e := by
  unfold rVar
  rw [h]
  dsimp only
  rw [hm]
  exact k
theorem is_d (h : ρ[i]? = some (some (.d x))) (k : R (.d (.bl (isNon x))) ρ) : rBin (lift2 (gIs false)) (rVar i) (rC .non) ρ R e := by
  refine q_bin (rv_d h ?_)
  cases x <;> exact k
theorem isNot_d (h : ρ[i]? = some (some (.d x))) (k : R (.d (.bl (!isNon x))) ρ) : rBin (lift2 (gIs true)) (rVar i) (rC .non) ρ R e := by
  refine q_bin (rv_d h ?_)
  cases x <;> exact k
theorem q_next (h : d.nx ρ) : sNext d ρ := h
theorem q_and {r u : RT} {R : Bool → Env → Prop} (h : r ρ (fun b ρ' => if b = true then u ρ' R e else R false ρ') e) : rAnd r u ρ R e := h
theorem q_andV {ra rb : RE} (h : rTst ra ρ (fun b ρ' => if b = true then rb ρ' R e else R (.d (.bl false)) ρ') e) : rAndV ra rb ρ R e := h
theorem q_call1 {sp : PSp} {ra : RE} (h : ra ρ (fun s ρ1 => match dats [s] with
  | some ds => ds.length = 1 ∧ sp (ds.map S.d) (fun s _ => R s ρ1) e
  | none => False) e) : rCall 1 sp (rCons ra rNil) ρ R e := h
theorem q_calln {n : Nat} {sp : PSp} {r : RA} (h : r ρ (fun ss ρ' => match dats ss with
  | some ds => ds.length = n ∧ sp (ds.map S.d) (fun s _ => R s ρ') e
  | none => False) e) : rCall n sp r ρ R e := h
theorem q_cons {ra : RE} {rr : RA} {R : List S → Env → Prop} (h : ra ρ (fun s ρ1 => rr ρ1 (fun ss ρ2 => R (s :: ss) ρ2) e) e) : rCons ra rr ρ R e := h
theorem q_c (h : R (.d x) ρ) : rC x ρ R e := h
theorem q_negc {n : Int} (h : R (.d (.int (-n))) ρ) : rNeg (rC (.int n)) ρ R e := h
theorem q_chain {g g' : F2} {ra rb rc : RE} (h : ra ρ (fun s ρ1 => rb ρ1 (fun t ρ2 => match t with
  | .d y => g s (.d y) fun z => match z with
    | .d (.bl true) => rc ρ2 (fun u ρ3 => g' (.d y) u fun z' => R z' ρ3) e
    | .d (.bl false) => R (.d (.bl false)) ρ2
    | _ => False
  | _ => False) e) e) : rChain g g' ra rb rc ρ R e := h
theorem itT (h : ρ[i]? = some (some (.d (.tup xs)))) (hx : xs[j]? = some x) (k : R (.d x) ρ) : rItemV i (rC (.int (j : Nat))) ρ R e := by
  unfold rItemV rC
  refine ⟨⟨_, h⟩, ?_⟩
  dsimp only
  rw [h]
  exact opt_ok (atI_nat hx) k
end
theorem isTup {x : D} (h : isT "tuple" x = true) : ∃ z, x = .tup z := by
  cases x with
  | tup z => exact ⟨z, rfl⟩
  | _ => cases h
theorem ne_int (i j : Int) : (eqD (.int i) (.int j) != true) = !decide (i = j) := by
  have := eqD_int i j
  rw [bneF] at this
  rw [bneT, this]
/-! ### the first wrong one -/
def scanG {κ : Type} (bad : List κ → D → Bool) (key : D → κ) : List κ → Nat → List D → Option Nat
  | _, _, [] => none
  | seen, i, x :: xs => if bad seen x = true then some i else scanG bad key (seen ++ [key x]) (i + 1) xs
section
variable {κ : Type} {bad : List κ → D → Bool} {key : D → κ}
theorem scanG_at : ∀ {xs : List D} {seen : List κ} {i n : Nat} {y : D}, xs[n]? = some y → (∀ m, m < n → ∀ z, xs[m]? = some z → bad (seen ++ (xs.take m).map key) z = false) → scanG bad key seen i xs = scanG bad key (seen ++ (xs.take n).map key) (i + n) (xs.drop n)
  | _, _, _, 0, _, _, _ => by simp
  | [], _, _, _ + 1, _, h, _ => by simp at h
  | x :: xs, seen, i, n + 1, y, h, hb => by
    have h0 : bad seen x = false := by
      have := hb 0 (by omega) x rfl
      simpa using this
    have h1 : scanG bad key seen i (x :: xs) = scanG bad key (seen ++ [key x]) (i + 1) xs := by
      show (if bad seen x = true then _ else _) = _
      rw [h0]
      rfl
    rw [h1, scanG_at (n := n) (by simpa using h) fun m hm z hz => ?_]
    · simp [Nat.add_assoc, Nat.add_comm 1 n]
    · have := hb (m + 1) (by omega) z (by simpa using hz)
      simpa using this
theorem scanG_hit {xs : List D} {n : Nat} {y : D} (hy : xs[n]? = some y) (hg : ∀ m, m < n → ∀ z, xs[m]? = some z → bad ((xs.take m).map key) z = false) (hb : bad ((xs.take n).map key) y = true) : scanG bad key [] 0 xs = some n := by
  have h1 := scanG_at (seen := []) (i := 0) hy (fun m hm z hz => by rw [List.nil_append]; exact hg m hm z hz)
  rw [h1, List.nil_append, Nat.zero_add]
  have hnl : n < xs.length := (List.getElem?_eq_some_iff.mp hy).1
  have h2 : xs.drop n = y :: xs.drop (n + 1) := by
    rw [List.drop_eq_getElem_cons hnl]
    congr 1
    exact (List.getElem?_eq_some_iff.mp hy).2
  rw [h2]
  show (if bad _ y = true then _ else _) = _
  rw [hb, if_pos rfl]
theorem scanG_allS : ∀ (xs : List D) (seen : List κ) (i : Nat), (∀ m, m < xs.length → ∀ z, xs[m]? = some z → bad (seen ++ (xs.take m).map key) z = false) → scanG bad key seen i xs = none
  | [], _, _, _ => rfl
  | x :: xs, seen, i, h => by
    have h0 : bad seen x = false := by
      have := h 0 (by rw [List.length_cons]; omega) x rfl
      simpa using this
    show (if bad seen x = true then _ else _) = _
    rw [h0, if_neg Bool.false_ne_true]
    refine scanG_allS xs _ _ fun m hm z hz => ?_
    have := h (m + 1) (by rw [List.length_cons]; omega) z (by simpa using hz)
    simpa using this
theorem scanG_all {xs : List D} (h : ∀ m, m < xs.length → ∀ z, xs[m]? = some z → bad ((xs.take m).map key) z = false) : scanG bad key [] 0 xs = none := scanG_allS xs [] 0 fun m hm z hz => by rw [List.nil_append]; exact h m hm z hz
theorem scanG_none : ∀ {xs : List D} {seen : List κ} {i : Nat}, scanG bad key seen i xs = none → ∀ {n : Nat} {y : D}, xs[n]? = some y → bad (seen ++ (xs.take n).map key) y = false
  | [], _, _, _, _, _, h => by simp at h
  | x :: xs, seen, i, h, n, y, hy => by
    have h : (if bad seen x = true then some i else scanG bad key (seen ++ [key x]) (i + 1) xs) = none := h
    have h0 : bad seen x = false := by
      cases hb : bad seen x with
      | false => rfl
      | true => rw [hb, if_pos rfl] at h; cases h
    rw [h0, if_neg Bool.false_ne_true] at h
    cases n with
    | zero =>
      have : x = y := by simpa using hy
      subst this
      simpa using h0
    | succ n =>
      have := scanG_none h (n := n) (by simpa using hy)
      simpa using this
theorem scanG_lt : ∀ {xs : List D} {seen : List κ} {i j : Nat}, scanG bad key seen i xs = some j → j < i + xs.length
  | [], _, _, _, h => by cases h
  | x :: xs, seen, i, j, h => by
    have h : (if bad seen x = true then some i else scanG bad key (seen ++ [key x]) (i + 1) xs) = some j := h
    rw [List.length_cons]
    split at h
    · cases h; omega
    · have := scanG_lt h
      omega
end
def known (x : D) : Prop := knD x = true ∧ ∀ xs, x = .tup xs → ∀ y ∈ xs, knD y = true
def knB (x : D) : Bool := knD x && match x with
  | .tup xs => xs.all knD
  | _ => true
theorem known_of {x : D} (h : knB x = true) : known x := by
  unfold knB at h
  rw [Bool.and_eq_true] at h
  refine ⟨h.1, fun xs e y hy => ?_⟩
  subst e
  exact List.all_eq_true.mp h.2 y hy
theorem enum_at {xs : List D} {done : List D} {x : D} {rest : List D} (h : enumD xs = done ++ x :: rest) : ∃ y, xs[done.length]? = some y ∧ x = .tup [.int (done.length : Nat), y] := by
  have h1 : (enumD xs)[done.length]? = some x := by rw [h, List.getElem?_append_right (Nat.le_refl _), Nat.sub_self]; rfl
  exact enumD_get h1
theorem take_at {α : Type} {xs : List α} {n : Nat} {y : α} (h : xs[n]? = some y) : xs.take (n + 1) = xs.take n ++ [y] := by
  rw [List.take_add_one, h]
  rfl
theorem name_str {a : D} (h : nameD a = true) : ∃ z, a = .str z ∧ nameS z = true := by
  cases a with
  | str z => exact ⟨z, rfl, h⟩
  | _ => cases h
theorem cutD_take {xs : List D} {n : Nat} (h : n ≤ xs.length) : cutD xs none (some (n : Nat)) = xs.take n := by
  unfold cutD
  rw [HT.sIx_none, HT.sIx_nat, Nat.min_eq_left h, Nat.sub_zero, List.drop_zero]
theorem cut_ok {xs : List D} {n : Nat} (h : n < xs.length) : ¬(HT.sIx xs.length 0 none = 0 ∧ HT.sIx xs.length xs.length (some ((n : Nat) : Int)) = xs.length) := by
  rw [HT.sIx_none, HT.sIx_nat, Nat.min_eq_left (by omega)]
  omega
theorem q_cut {r : RE} {rl rh : RO} {ρ : Env} {R : S → Env → Prop} {e : XD → Prop} (h : r ρ (fun s ρ1 => rl ρ1 (fun lo ρ2 => rh ρ2 (fun hi ρ3 => match s.dat with
  | some x => gCut x lo hi fun z => R z ρ3
  | none => False) e) e) e) : rCut r rl rh ρ R e := h
theorem q_cb1 {ρ : Env} {R : S → Env → Prop} {e : XD → Prop} {g : F1} {ra : RE} (h : ra ρ (fun s ρ' => g [s] fun z => R z ρ') e) : rCB g (rCons ra rNil) ρ R e := h
theorem q_cap {ρ : Env} {R : S → Env → Prop} {e : XD → Prop} {gc : XD → (D → Prop) → Prop} {r : RE} (h : r (datO ρ) (fun s _ => optP s.dat fun x => R (.d (.lst [.str "given", x])) ρ) (fun x => gc x fun y => R (.d y) ρ)) : rCap gc r ρ R e := h
theorem dat_get {ρ : Env} {i : Nat} {x : D} (h : ρ[i]? = some (some (.d x))) : (datO ρ)[i]? = some (some (.d x)) := by
  unfold datO
  rw [List.getElem?_map, h]
  rfl
theorem ix_of {m i : Nat} (h : i < m) : ixN m (i : Int) = some i := by
  have h1 : (i : Int) < (m : Int) := Int.ofNat_lt.mpr h
  have h0 : (0 : Int) ≤ (i : Int) := Int.natCast_nonneg i
  simp [ixN, h0, h1]
theorem small_str : ∀ i : Nat, i < 1000 → ((i : Nat) : Int).natAbs.log2 < 1920 ∧ okS (Str.ofString (toString ((i : Nat) : Int))) := by decide +kernel
end QL
set_option Elab.async false
set_option linter.all false
set_option maxRecDepth 100000
set_option maxHeartbeats 4000000
namespace QL
open PySem L2
open PySem.W (Frag)
/-- `_law_caught(lambda: ..)` -/
theorem de_caught {G : Gw} {E : XK} {X : Cx} {k : Nat} {gq : Bool} {pos p lpos : Pos} {params : Arguments} {body : Expr} {scope : Scope} {r : RE} {fC fF : Addr} {dC dF : FuncData} (c : Cn G E X (k + 2) gq) (T : Bn X.mg) (K : ErrK G X.mg)
    (Zc : DefAt G.W.K X.mg "_law_caught" s__law_caught fC dC ["_law_act"]) (Zf : DefAt G.W.K X.mg "_law_field" s__law_field fF dF ["_law_e", "_law_at"]) (LA : LamAt G X.base X.mg X.env.qual X.env.code)
    (hbody : ∀ (A : Around) (outer : List PySem.Env) (s : Shared) (H : Hp) (E' : XK) (f c' : Addr), Cn G E' (LX X A outer s H E' scope f c') k false → ∃ t, DE G E' (LX X A outer s H E' scope f c') body t r)
    (hg : Gl X "_law_caught" := by rfl) (L : LamX.LamS X.env.scope scope := by exact LamX.lamS_by (by decide +kernel)) (hdef : defaultsOf params X.env = ([], []) := by rfl)
    (hbind : ∀ (q : Str) (cl : List (Str × Addr)) (pm cv ctv : Value), bindArgs (PySem.W.kla_fn "<lambda>" q params body scope cl pm cv ctv) ⟨[], []⟩ = pure [] := by intros; rfl) :
    DE G E X (.Call (.Name "_law_caught" p) [.Lambda params body scope lpos] [] pos) (LamX.tLam G.W.T (TTc G (gCap gq)) (tPure G r)) (rCap (gCap gq) r) := by
  obtain ⟨oc, od, kV, doc, pm, an, cdv, ct, osl, rfl, lk, hcd⟩ := Zc.F.ex
  have eK := c.K
  refine de_lam (Ng := n__law_caught) (a := "_law_act") c Zc.g (by rw [eK]; exact Zc.F.kp) (by rw [eK]; exact lk) (by rw [eK]; exact hcd) (by rw [eK]; exact Zc.b) sc__law_caught rfl (.inl rfl) ?_ gCap_mono LA hbody hg L hdef hbind
  rw [eK]
  exact caught_gives T K Zf c.gd
end QL
set_option Elab.async false
set_option linter.all false
set_option maxRecDepth 100000
set_option maxHeartbeats 4000000
namespace QL
open PySem L2
/-! ### repr of a name and of a tuple of one name -/
theorem rc_small : ∀ q ∈ [34, 39], ∀ c ∈ sgns.cps.toList, ∀ x ∈ Builtin.Str.reprChar q c, x < 0x110000 := by decide +kernel
theorem inS_mem {c : Nat} (h : inS sgns c = true) : c ∈ sgns.cps.toList := by
  unfold inS at h
  simpa using h
theorem name_sgn {z : Str} (h : nameS z = true) : ∀ c ∈ z.cps.toList, c ∈ sgns.cps.toList := fun c hc => by
  unfold nameS at h
  simp only [Bool.and_eq_true] at h
  exact inS_mem (List.all_eq_true.mp h.2 c hc)
theorem fold_small {q : Nat} : ∀ (l : List Nat) (acc : Array Nat), (∀ c ∈ l, ∀ x ∈ Builtin.Str.reprChar q c, x < 0x110000) → (∀ x ∈ acc.toList, x < 0x110000) → ∀ x ∈ (l.foldl (fun out c => out ++ (Builtin.Str.reprChar q c).toArray) acc).toList, x < 0x110000
  | [], _, _, h => h
  | c :: l, acc, h1, h2 => by
    refine fold_small l _ (fun d hd => h1 d (List.mem_cons_of_mem _ hd)) fun x hx => ?_
    rw [Array.toList_append] at hx
    rcases List.mem_append.mp hx with h | h
    · exact h2 x h
    · exact h1 c List.mem_cons_self x h
theorem okS_repr {z : Str} (h : nameS z = true) : okS (reprText z) ∧ (reprText z).length ≤ 82 := by
  have h3 := (name_ok h).2.2
  have hs := name_sgn h
  have hl : (reprText z).length ≤ 82 := by
    have := StrLaws.reprText_len z fun c hc => Nat.lt_of_lt_of_le (sgns_small c (hs c hc)) (by decide)
    omega
  refine ⟨⟨by rw [sizeLine_eq]; omega, ?_⟩, hl⟩
  have hq : reprQuote z ∈ [34, 39] := by
    unfold reprQuote
    split <;> simp
  unfold PyData.strOk reprText
  rw [← Array.all_toList, List.all_eq_true]
  intro x hx
  rw [Array.toList_push] at hx
  refine decide_eq_true ?_
  rcases List.mem_append.mp hx with hx | hx
  · rw [← Array.foldl_toList] at hx
    refine fold_small z.cps.toList _ (fun c hc => rc_small _ hq c (hs c hc)) (fun y hy => ?_) x hx
    have hy : y = reprQuote z := by simpa using hy
    rw [hy]
    rcases List.mem_cons.mp hq with e | e
    · rw [e]; decide
    · rw [List.mem_singleton.mp e]; decide
  · have hy : x = reprQuote z := by simpa using hx
    rw [hy]
    rcases List.mem_cons.mp hq with e | e
    · rw [e]; decide
    · rw [List.mem_singleton.mp e]; decide
theorem okS_rep1 {z : Str} (h : nameS z = true) : okS (toP (.tup [.str z])).shown := by
  obtain ⟨h1, h2⟩ := okS_repr h
  have e : (toP (.tup [.str z])).shown = ("(" : Str) ++ reprText z ++ (",)" : Str) := by
    simp only [toP, toPs, PyData.shown, PyData.shownAll]
    rfl
  rw [e]
  refine okS_app (okS_app (by decide +kernel) h1 ?_) (by decide +kernel) ?_
  · have : ("(" : Str).length = 1 := by decide +kernel
    rw [sizeLine_eq, this]
    omega
  · have : ("(" : Str).length = 1 := by decide +kernel
    have : (",)" : Str).length = 2 := by decide +kernel
    rw [sizeLine_eq, Str.length_append]
    omega
end QL
set_option Elab.async false
set_option linter.all false
set_option maxRecDepth 100000
set_option maxHeartbeats 4000000
namespace QL
open PySem L2
open PySem.W (Frag)
/-- an integer from lo to hi -/
def betw (x : D) (lo hi : Int) : Bool := match x with
  | .int i => decide (lo ≤ i) && decide (i ≤ hi)
  | _ => false
theorem chain_vars {i j l : Nat} {a b c : Int} {ρ : Env} {R : S → Env → Prop} {e : XD → Prop} {p q : Int → Int → Bool} (hi : ρ[i]? = some (some (.d (.int a)))) (hj : ρ[j]? = some (some (.d (.int b)))) (hl : ρ[l]? = some (some (.d (.int c)))) (k : R (.d (.bl (p a b && q b c))) ρ) :
    rChain (lift2 (gI fun i j => D.bl (p i j))) (lift2 (gI fun i j => D.bl (q i j))) (rVar i) (rVar j) (rVar l) ρ R e := by
  unfold rChain rVar
  rw [hi]
  dsimp only
  rw [hj]
  show (match (S.d (.bl (p a b)) : S) with
    | .d (.bl true) => _
    | .d (.bl false) => _
    | _ => False)
  cases h1 : p a b with
  | true =>
    rw [h1] at k
    dsimp only
    rw [hl]
    exact k
  | false => rw [h1] at k; exact k
abbrev s_is_between : Stmt := top 31
abbrev n_is_between : List Str := ["value", "least", "most"]
theorem sc_is_between : FnScope n_is_between ["value", "least", "most"] (defScope s_is_between) := ⟨rfl, rfl, rfl, by decide +kernel, rfl, by decide +kernel, by decide +kernel⟩
def psBetw : PSp := fun ss R _ => ∃ x lo hi, ss = [.d x, .d (.int lo), .d (.int hi)] ∧ knD x = true ∧ R (.d (.bl (betw x lo hi))) []
section
variable {P : Program} {w : World} {G : Gw} {mg : Str → Option Value} {base : Heap} {k : Nat} {f : Addr} {fd : FuncData} {fI : Addr} {dI : FuncData}
theorem p_betw (F : Fun G.W.K "is_between" "is_between" s_is_between f fd) (T : Bn mg) (IK : IsiK G) (Z_is_integer : DefAt G.W.K mg "is_integer" s_is_integer fI dI ["value"]) : FnOk P w G.W.K mg base (L2N.CX P w) (k + 2) f fd ["value", "least", "most"] (toSp G 3 psBetw) := by
  have F_is_integer : FnOk P w G.W.K mg base (L2N.CX P w) (k + 1) fI dI ["value"] (toSp G 1 psInt) := p_int Z_is_integer.F T IK
  refine fn_pure F sc_is_between (by decide) fun cdv A outer s H E c => ⟨_, _, (dss_one (ds_ret (de_and (de_call c F_is_integer Z_is_integer.g Z_is_integer.F.kp Z_is_integer.b (da_cons (de_var 0) da_nil)) (de_one (de_chain op_le op_le bvLe bvLe (de_var 1) (de_var 0) (de_var 2)))))), fun ss R e hsp hl => ?_⟩
  obtain ⟨x, lo, hi, rfl, hk, hR⟩ := hsp
  refine ⟨rfl, x, rfl, hk, ?_⟩
  cases x with
  | int i => exact chain_vars (p := fun i j => decide (i ≤ j)) (q := fun i j => decide (i ≤ j)) (i := 1) (j := 0) (l := 2) rfl rfl rfl hR
  | _ => exact hR
end
end QL
set_option Elab.async false
set_option linter.all false
set_option maxRecDepth 100000
set_option maxHeartbeats 4000000
namespace QL
open PySem L2
open PySem.W (Frag)
/-- a grid, or none -/
def netOk : D → Bool
  | .non => true
  | .tup [a, b] => match a, b with
    | .int i, .int j => (decide (1 ≤ i) && decide (i ≤ 60)) && (decide (0 ≤ j) && decide (j ≤ i - 1))
    | _, _ => false
  | _ => false
theorem netOk_len {xs : List D} (h : xs.length ≠ 2) : netOk (.tup xs) = false := by
  match xs, h with
  | [], _ => rfl
  | [_], _ => rfl
  | [_, _], h => exact absurd rfl h
  | _ :: _ :: _ :: _, _ => rfl
theorem netOk_not {x : D} (h : isNon x = false) (h2 : isT "tuple" x = false) : netOk x = false := by
  cases x with
  | non => cases h
  | tup xs => cases h2
  | _ => rfl
abbrev s_check_grid : Stmt := top 38
abbrev n_check_grid : List Str := ["value"]
theorem sc_check_grid : FnScope n_check_grid ["value"] (defScope s_check_grid) := ⟨rfl, rfl, rfl, by decide +kernel, rfl, by decide +kernel, by decide +kernel⟩
abbrev s__law_is_net : Stmt := top 59
abbrev n__law_is_net : List Str := ["_law_thing"]
theorem sc__law_is_net : FnScope n__law_is_net ["_law_thing"] (defScope s__law_is_net) := ⟨rfl, rfl, rfl, by decide +kernel, rfl, by decide +kernel, by decide +kernel⟩
def psGrid : PSp := fun ss R e => ∃ x, ss = [.d x] ∧ knD x = true ∧ (∀ xs, x = .tup xs → ∀ y ∈ xs, knD y = true) ∧ (netOk x = true → R (.d .non) []) ∧ (netOk x = false → e (6, x))
def psNet : PSp := fun ss R _ => ∃ x, ss = [.d x] ∧ knD x = true ∧ (∀ xs, x = .tup xs → ∀ y ∈ xs, knD y = true) ∧ R (.d (.bl (netOk x))) []
section
variable {P : Program} {w : World} {G : Gw} {mg : Str → Option Value} {base : Heap} {k : Nat} {f : Addr} {fd : FuncData} {fI fB : Addr} {dI dB : FuncData} {t1 : Tok}
theorem p_grid (F : Fun G.W.K "check_grid" "check_grid" s_check_grid f fd) (T : Bn mg) (IK : IsiK G) (m_MAX_STEP : mg "MAX_STEP" = some (.int 60 t1)) (Z_is_integer : DefAt G.W.K mg "is_integer" s_is_integer fI dI ["value"]) (Z_is_between : DefAt G.W.K mg "is_between" s_is_between fB dB ["value", "least", "most"]) (X_InvalidGrid : ExcOk G P w mg 6 "InvalidGrid" "value") :
    FnOk P w G.W.K mg base (L2N.CX P w) (k + 3) f fd ["value"] (toSp G 1 psGrid) := by
  have I_tuple := IK.tup
  have F_is_between : FnOk P w G.W.K mg base (L2N.CX P w) (k + 2) fB dB ["value", "least", "most"] (toSp G 3 psBetw) := p_betw Z_is_between.F T IK Z_is_integer
  refine fn_pure F sc_check_grid (by decide) fun cdv A outer s H E c => ⟨_, _, (dss_cons (ds_if (dt_is (de_var 0) de_non) (dss_one ds_retN) dss_nil)
      (dss_cons (ds_if (dt_of (dw_or (dt_not (dt_val (de_isB c T (de_var 0) T.tup (by decide +kernel) I_tuple))) (dw_or (dt_ne c (de_lenV c T 0) de_int) (dw_or1 (dt_not (dt_val (de_call c F_is_between Z_is_between.g Z_is_between.F.kp Z_is_between.b (da_cons (de_itemV c 0 de_int) (da_cons de_int (da_cons (de_globI m_MAX_STEP) da_nil)))))))))) (dss_one (ds_raise c X_InvalidGrid (de_var 0))) dss_nil)
      (dss_one (ds_if (dt_not (dt_val (de_call c F_is_between Z_is_between.g Z_is_between.F.kp Z_is_between.b (da_cons (de_itemV c 0 de_int) (da_cons de_int (da_cons (de_sub (de_itemV c 0 de_int) de_int) da_nil)))))) (dss_one (ds_raise c X_InvalidGrid (de_var 0))) dss_nil)))), fun ss R e hsp hl => ?_⟩
  obtain ⟨x, rfl, hk, hk2, hR, hE⟩ := hsp
  refine q_seq (q_if (q_tst (is_d (i := 0) rfl ?_)))
  cases hn : isNon x with
  | true =>
    have : x = .non := by cases x <;> first | rfl | cases hn
    subst this
    exact hR rfl
  | false =>
    refine ifF rfl (q_next ?_)
    refine isi_ok (isi_T hk) ?_
    cases ht : isT "tuple" x with
    | false => exact hE (netOk_not hn ht)
    | true =>
      obtain ⟨xs, rfl⟩ := isTup ht
      refine ifF rfl ⟨okP_int, okP_int, ?_⟩
      by_cases hl2 : xs.length = 2
      · match xs, hl2 with
        | [a, b], _ =>
          have ka := hk2 _ rfl a (by simp)
          have kb := hk2 _ rfl b (by simp)
          refine ifF (ne_int 2 2) ?_
          refine q_not (q_tst (q_calln (q_cons (itT (i := 0) (j := 0) rfl rfl ⟨rfl, a, 1, 60, rfl, ka, ?_⟩))))
          cases h1 : betw a 1 60 with
          | false =>
            refine hE ?_
            cases a with
            | int i =>
              have h1 : (decide (1 ≤ i) && decide (i ≤ 60)) = false := h1
              cases b with
              | int j => show ((decide (1 ≤ i) && decide (i ≤ 60)) && _) = false; rw [h1]; rfl
              | _ => rfl
            | _ => cases b <;> rfl
          | true =>
            refine ifF rfl (q_next ?_)
            cases a with
            | int i =>
              have h1 : (decide (1 ≤ i) && decide (i ≤ 60)) = true := h1
              refine q_if (q_not (q_tst (q_calln (q_cons (itT (i := 0) (j := 1) rfl rfl (q_cons (q_c (q_cons (q_bin (itT (i := 0) (j := 0) rfl rfl ⟨rfl, b, 0, i - 1, rfl, kb, ?_⟩))))))))))
              cases h2 : betw b 0 (i - 1) with
              | false =>
                refine hE ?_
                cases b with
                | int j =>
                  have h2 : (decide (0 ≤ j) && decide (j ≤ i - 1)) = false := h2
                  show (_ && (decide (0 ≤ j) && decide (j ≤ i - 1))) = false
                  rw [h2, Bool.and_false]
                | _ => rfl
              | true =>
                cases b with
                | int j =>
                  have h2 : (decide (0 ≤ j) && decide (j ≤ i - 1)) = true := h2
                  refine hR ?_
                  show ((decide (1 ≤ i) && decide (i ≤ 60)) && (decide (0 ≤ j) && decide (j ≤ i - 1))) = true
                  rw [h1, h2]
                  rfl
                | _ => cases h2
            | _ => cases h1
      · refine ifT ?_ (hE (netOk_len hl2))
        rw [ne_int]
        have : ¬ ((xs.length : Nat) : Int) = 2 := by omega
        rw [decide_eq_false this]
        rfl
theorem p_net (F : Fun G.W.K "_law_is_net" "_law_is_net" s__law_is_net f fd) (T : Bn mg) (IK : IsiK G) (Z__law_is_whole : DefAt G.W.K mg "_law_is_whole" s__law_is_whole fI dI ["_law_thing"]) :
    FnOk P w G.W.K mg base (L2N.CX P w) (k + 2) f fd ["_law_thing"] (toSp G 1 psNet) := by
  have I_tuple := IK.tup
  have F__law_is_whole : FnOk P w G.W.K mg base (L2N.CX P w) (k + 1) fI dI ["_law_thing"] (toSp G 1 psInt) := p_whole Z__law_is_whole.F T IK
  refine fn_pure F sc__law_is_net (by decide) fun cdv A outer s H E c => ⟨_, _, (dss_cons (ds_if (dt_is (de_var 0) de_non) (dss_one (ds_ret de_bl)) dss_nil)
      (dss_cons (ds_if (dt_of (dw_or (dt_not (dt_val (de_isB c T (de_var 0) T.tup (by decide +kernel) I_tuple))) (dw_or (dt_ne c (de_lenV c T 0) de_int) (dw_or (dt_not (dt_val (de_call c F__law_is_whole Z__law_is_whole.g Z__law_is_whole.F.kp Z__law_is_whole.b (da_cons (de_itemV c 0 de_int) da_nil)))) (dw_or1 (dt_not (dt_val (de_call c F__law_is_whole Z__law_is_whole.g Z__law_is_whole.F.kp Z__law_is_whole.b (da_cons (de_itemV c 0 de_int) da_nil))))))))) (dss_one (ds_ret de_bl)) dss_nil)
      (dss_one (ds_ret (de_and (de_chain op_lt op_lt bvLt bvLt de_int (de_itemV c 0 de_int) de_int) (de_one (de_chain op_lt op_lt bvLt bvLt (de_neg de_int) (de_itemV c 0 de_int) (de_itemV c 0 de_int)))))))), fun ss R e hsp hl => ?_⟩
  obtain ⟨x, rfl, hk, hk2, hR⟩ := hsp
  refine q_seq (q_if (q_tst (is_d (i := 0) rfl ?_)))
  cases hn : isNon x with
  | true =>
    have : x = .non := by cases x <;> first | rfl | cases hn
    subst this
    exact hR
  | false =>
    refine ifF rfl (q_next ?_)
    refine isi_ok (isi_T hk) ?_
    cases ht : isT "tuple" x with
    | false => rw [netOk_not hn ht] at hR; exact hR
    | true =>
      obtain ⟨xs, rfl⟩ := isTup ht
      refine ifF rfl ⟨okP_int, okP_int, ?_⟩
      by_cases hl2 : xs.length = 2
      · match xs, hl2 with
        | [a, b], _ =>
          have ka := hk2 _ rfl a (by simp)
          have kb := hk2 _ rfl b (by simp)
          refine ifF (ne_int 2 2) ?_
          refine q_or (q_not (q_tst (q_call1 (itT (i := 0) (j := 0) rfl rfl ⟨rfl, a, rfl, ka, ?_⟩))))
          cases a with
          | int i =>
            refine ifF rfl ?_
            refine q_not (q_tst (q_call1 (itT (i := 0) (j := 1) rfl rfl ⟨rfl, b, rfl, kb, ?_⟩)))
            cases b with
            | int j =>
              refine ifF rfl (q_next ?_)
              dsimp only
              refine q_ret (q_andV (q_tst (q_chain (q_c (itT (i := 0) (j := 0) rfl rfl ?_)))))
              have hR : R (.d (.bl ((decide (1 ≤ i) && decide (i ≤ 60)) && (decide (0 ≤ j) && decide (j ≤ i - 1))))) [] := hR
              show (match (S.d (.bl (decide ((0 : Int) < i))) : S) with
                | .d (.bl true) => _
                | .d (.bl false) => _
                | _ => False)
              by_cases g1 : (0 : Int) < i
              · rw [decide_eq_true g1]
                rw [decide_eq_true (show (1 : Int) ≤ i by omega), Bool.true_and] at hR
                dsimp only
                show if decide (i < (61 : Int)) = true then _ else _
                by_cases g2 : i < (61 : Int)
                · rw [decide_eq_true (show i ≤ 60 by omega), Bool.true_and] at hR
                  refine ifT (decide_eq_true g2) ?_
                  refine q_chain (q_negc (itT (i := 0) (j := 1) rfl rfl ?_))
                  show (match (S.d (.bl (decide (-(1 : Int) < j))) : S) with
                    | .d (.bl true) => _
                    | .d (.bl false) => _
                    | _ => False)
                  by_cases g3 : -(1 : Int) < j
                  · rw [decide_eq_true g3]
                    rw [decide_eq_true (show (0 : Int) ≤ j by omega), Bool.true_and] at hR
                    refine itT (i := 0) (j := 0) rfl rfl ?_
                    have e4 : decide (j ≤ i - 1) = decide (j < i) := decide_eq_decide.mpr (by omega)
                    rw [e4] at hR
                    exact hR
                  · rw [decide_eq_false g3]
                    rw [decide_eq_false (show ¬ (0 : Int) ≤ j by omega)] at hR
                    exact hR
                · rw [decide_eq_false (show ¬ i ≤ 60 by omega)] at hR
                  exact ifF (decide_eq_false g2) hR
              · rw [decide_eq_false g1]
                rw [decide_eq_false (show ¬ (1 : Int) ≤ i by omega)] at hR
                exact hR
            | _ => exact hR
          | _ => cases b <;> exact hR
      · refine ifT ?_ (by rw [netOk_len hl2] at hR; exact hR)
        rw [ne_int]
        have : ¬ ((xs.length : Nat) : Int) = 2 := by omega
        rw [decide_eq_false this]
        rfl
end
end QL
set_option Elab.async false
set_option linter.all false
set_option maxRecDepth 100000
set_option maxHeartbeats 4000000
namespace QL
open PySem L2
open PySem.W (Frag)
/-! ### pairs of a feed and a distance -/
def pairOk : D → Bool
  | .tup [a, b] => nameD a && betw b 1 1000000000
  | _ => false
def fstK : D → Str
  | .tup (.str z :: _) => z
  | _ => ""
def badP (seen : List Str) (x : D) : Bool := !pairOk x || decide (fstK x ∈ seen)
def scanP (xs : List D) : Option Nat := scanG badP fstK [] 0 xs
theorem pairOk_len {xs : List D} (h : xs.length ≠ 2) : pairOk (.tup xs) = false := by
  match xs, h with
  | [], _ => rfl
  | [_], _ => rfl
  | [_, _], h => exact absurd rfl h
  | _ :: _ :: _ :: _, _ => rfl
theorem pairOk_not {x : D} (h2 : isT "tuple" x = false) : pairOk x = false := by
  cases x with
  | tup xs => cases h2
  | _ => rfl
theorem bad_of {seen : List Str} {x : D} (h : pairOk x = false) : badP seen x = true := by unfold badP; rw [h]; rfl
theorem bad_in {seen : List Str} {x : D} (h : fstK x ∈ seen) : badP seen x = true := by unfold badP; rw [decide_eq_true h, Bool.or_true]
theorem bad_no {seen : List Str} {x : D} (h1 : pairOk x = true) (h2 : fstK x ∉ seen) : badP seen x = false := by unfold badP; rw [h1, decide_eq_false h2]; rfl
abbrev s_check_apart : Stmt := top 39
abbrev n_check_apart : List Str := ["value", "seen", "index", "pair"]
theorem sc_check_apart : FnScope n_check_apart ["value"] (defScope s_check_apart) := ⟨rfl, rfl, rfl, by decide +kernel, rfl, by decide +kernel, by decide +kernel⟩
abbrev s__law_is_pair : Stmt := top 60
abbrev n__law_is_pair : List Str := ["_law_thing"]
theorem sc__law_is_pair : FnScope n__law_is_pair ["_law_thing"] (defScope s__law_is_pair) := ⟨rfl, rfl, rfl, by decide +kernel, rfl, by decide +kernel, by decide +kernel⟩
def psApart : PSp := fun ss R e => ∃ x, ss = [.d x] ∧ knD x = true ∧ ((∃ xs, x = .tup xs ∧ xs.length < 1000 ∧ (∀ y ∈ xs, known y) ∧ (∀ i, scanP xs = some i → e (14, .int (i : Nat))) ∧ (scanP xs = none → R (.d .non) [])) ∨ (isT "tuple" x = false ∧ e (14, .non)))
def psPair : PSp := fun ss R _ => ∃ x, ss = [.d x] ∧ known x ∧ R (.d (.bl (pairOk x))) []
section
variable {P : Program} {w : World} {G : Gw} {mg : Str → Option Value} {base : Heap} {k : Nat} {f : Addr} {fd : FuncData} {fI fB fN : Addr} {dI dB dN : FuncData} {t0 t1 t2 t3 : Tok}
theorem p_apart (F : Fun G.W.K "check_apart" "check_apart" s_check_apart f fd) (T : Bn mg) (IK : IsiK G) (m_MAX_DISTANCE : mg "MAX_DISTANCE" = some (.int 1000000000 t0)) (m_LETTERS : mg "LETTERS" = some (.str lets t1)) (m_SIGNS : mg "SIGNS" = some (.str sgns t2)) (m_MAX_LENGTH : mg "MAX_LENGTH" = some (.int 8 t3))
    (Z_is_name : DefAt G.W.K mg "is_name" s_is_name fN dN ["value"]) (Z_is_integer : DefAt G.W.K mg "is_integer" s_is_integer fI dI ["value"]) (Z_is_between : DefAt G.W.K mg "is_between" s_is_between fB dB ["value", "least", "most"]) (X_InvalidApart : ExcOk G P w mg 14 "InvalidApart" "index") :
    FnOk P w G.W.K mg base (L2N.CX P w) (k + 3) f fd ["value"] (toSp G 1 psApart) := by
  have I_tuple := IK.tup
  have F_is_between : FnOk P w G.W.K mg base (L2N.CX P w) (k + 2) fB dB ["value", "least", "most"] (toSp G 3 psBetw) := p_betw Z_is_between.F T IK Z_is_integer
  have F_is_name : FnOk P w G.W.K mg base (L2N.CX P w) (k + 2) fN dN ["value"] (toSp G 1 psName) := p_name Z_is_name.F T IK m_LETTERS m_SIGNS m_MAX_LENGTH
  refine fn_pure F sc_check_apart (by decide) fun cdv A outer s H E c => ⟨_, _, (dss_cons (ds_if (dt_not (dt_val (de_isB c T (de_var 0) T.tup (by decide +kernel) I_tuple))) (dss_one (ds_raise c X_InvalidApart de_non)) dss_nil)
      (dss_cons (ds_set (i := 1) (de_lst da_nil) c.nd)
      (dss_one (ds_for c (di_enum c T (da_cons (de_var 0) da_nil)) (dg_tup (n := 2) c (dgs_cons (dg_name 2 c.nd) (dgs_cons (dg_name 3 c.nd) dgs_nil))) (dss_cons (ds_if (dt_of (dw_or (dt_not (dt_val (de_isB c T (de_var 3) T.tup (by decide +kernel) I_tuple))) (dw_or (dt_ne c (de_lenV c T 3) de_int) (dw_or (dt_not (dt_val (de_call c F_is_name Z_is_name.g Z_is_name.F.kp Z_is_name.b (da_cons (de_itemV c 3 de_int) da_nil)))) (dw_or1 (dt_inV c 1 (de_itemV c 3 de_int))))))) (dss_one (ds_raise c X_InvalidApart (de_var 2))) dss_nil)
      (dss_cons (ds_if (dt_not (dt_val (de_call c F_is_between Z_is_between.g Z_is_between.F.kp Z_is_between.b (da_cons (de_itemV c 3 de_int) (da_cons de_int (da_cons (de_globI m_MAX_DISTANCE) da_nil)))))) (dss_one (ds_raise c X_InvalidApart (de_var 2))) dss_nil)
      (dss_one (ds_expr (de_append c 1 (de_itemV c 3 de_int)))))))))), fun ss R e hsp hl => ?_⟩
  obtain ⟨x, rfl, hk, hh⟩ := hsp
  refine isi_ok (isi_T hk) ?_
  rcases hh with ⟨xs, rfl, hn, hkn, hE, hR⟩ | ⟨hx, he⟩
  · refine ifF rfl (q_next ?_)
    refine ⟨leN rfl, fun q => ⟨ltR rfl, ?_⟩⟩
    refine loopR_ind (fun done ρ => ∃ (x2 x3 : Option S), (∀ m, m < done.length → ∀ z, xs[m]? = some z → badP ((xs.take m).map fstK) z = false) ∧ ρ = [some (.d (.tup xs)), some (.m q (.lst (dstr ((xs.take done.length).map fstK)))), x2, x3]) ⟨none, none, fun m hm => absurd hm (Nat.not_lt_zero _), rfl⟩ ?_ ?_
    · rintro K done x rest ρ eds ⟨x2, x3, hgood, rfl⟩ hK
      obtain ⟨y, hy, rfl⟩ := enum_at eds
      have hyk := hkn y (List.mem_of_getElem? hy)
      have hnl : done.length < xs.length := (List.getElem?_eq_some_iff.mp hy).1
      have err : badP ((xs.take done.length).map fstK) y = true → e (14, .int (done.length : Nat)) := fun hb => hE _ (scanG_hit hy hgood hb)
      refine ⟨rfl, ltR rfl, ltR rfl, ?_⟩
      refine isi_ok (isi_T hyk.1) ?_
      cases ht : isT "tuple" y with
      | false => exact err (bad_of (pairOk_not ht))
      | true =>
        obtain ⟨ys, rfl⟩ := isTup ht
        refine ifF rfl ⟨okP_int, okP_int, ?_⟩
        by_cases hl2 : ys.length = 2
        · match ys, hl2 with
          | [a, b], _ =>
            have ka := hyk.2 _ rfl a (by simp)
            have kb := hyk.2 _ rfl b (by simp)
            refine ifF (ne_int 2 2) ?_
            refine q_or (q_not (q_tst (q_call1 (itT (i := 3) (j := 0) rfl rfl ⟨rfl, a, rfl, ka, ?_⟩))))
            cases h1 : nameD a with
            | false => exact err (bad_of (by show (nameD a && _) = false; rw [h1]; rfl))
            | true =>
              obtain ⟨z, rfl, hz⟩ := name_str h1
              refine ifF rfl (q_tst ⟨⟨_, rfl⟩, itT (i := 3) (j := 0) rfl rfl ⟨okP_str, okP_strs _, ?_⟩⟩)
              show if (((dstr ((xs.take done.length).map fstK)).any fun w => eqD w (.str z)) != false) = true then _ else _
              rw [any_strs, bneF]
              by_cases hz2 : z ∈ (xs.take done.length).map fstK
              · exact ifT (decide_eq_true hz2) (err (bad_in hz2))
              · refine ifF (decide_eq_false hz2) (q_next ?_)
                dsimp only
                refine q_seq (q_if (q_not (q_tst (q_calln (q_cons (itT (i := 3) (j := 1) rfl rfl ⟨rfl, b, 1, 1000000000, rfl, kb, ?_⟩))))))
                cases h2 : betw b 1 1000000000 with
                | false => exact err (bad_of (by show (_ && betw b 1 1000000000) = false; rw [h2, Bool.and_false]))
                | true =>
                  refine ifF rfl (q_next ?_)
                  have hb : badP ((xs.take done.length).map fstK) (.tup [.str z, b]) = false := bad_no (by show (nameS z && betw b 1 1000000000) = true; rw [hz, h2]; rfl) hz2
                  refine ⟨⟨_, _, rfl⟩, itT (i := 3) (j := 0) rfl rfl ⟨?_, hK _ ⟨some (.d (.int (done.length : Nat))), some (.d (.tup [.str z, b])), fun m hm z2 hz3 => ?_, ?_⟩⟩⟩
                  · unfold dstr
                    rw [List.length_map, List.length_map, List.length_take, sizeLine_eq]
                    omega
                  · rw [List.length_append, List.length_cons, List.length_nil] at hm
                    by_cases hlt : m < done.length
                    · exact hgood m hlt z2 hz3
                    · have : m = done.length := by omega
                      subst this
                      rw [hy] at hz3
                      cases hz3
                      exact hb
                  · have e1 : dstr ((xs.take (done.length + 1)).map fstK) = dstr ((xs.take done.length).map fstK) ++ [.str z] := by
                      rw [take_at hy, List.map_append]
                      unfold dstr
                      rw [List.map_append]
                      rfl
                    rw [List.length_append, List.length_cons, List.length_nil, e1]
                    rfl
        · refine ifT ?_ (err (bad_of (pairOk_len hl2)))
          rw [ne_int]
          have : ¬ ((ys.length : Nat) : Int) = 2 := by omega
          rw [decide_eq_false this]
          rfl
    · rintro ρ ⟨x2, x3, hgood, rfl⟩
      rw [enumD_len] at hgood
      exact hR (scanG_all fun m hm => hgood m hm)
  · rw [hx]
    exact ifT rfl he
theorem p_pair (F : Fun G.W.K "_law_is_pair" "_law_is_pair" s__law_is_pair f fd) (T : Bn mg) (IK : IsiK G) (Z__law_is_whole : DefAt G.W.K mg "_law_is_whole" s__law_is_whole fI dI ["_law_thing"]) (Z__law_is_tag : DefAt G.W.K mg "_law_is_tag" s__law_is_tag fN dN ["_law_thing"]) :
    FnOk P w G.W.K mg base (L2N.CX P w) (k + 2) f fd ["_law_thing"] (toSp G 1 psPair) := by
  have I_tuple := IK.tup
  have F__law_is_whole : FnOk P w G.W.K mg base (L2N.CX P w) (k + 1) fI dI ["_law_thing"] (toSp G 1 psInt) := p_whole Z__law_is_whole.F T IK
  have F__law_is_tag : FnOk P w G.W.K mg base (L2N.CX P w) (k + 1) fN dN ["_law_thing"] (toSp G 1 psName) := p_istag Z__law_is_tag.F T IK
  refine fn_pure F sc__law_is_pair (by decide) fun cdv A outer s H E c => ⟨_, _, (dss_cons (ds_if (dt_of (dw_or (dt_not (dt_val (de_isB c T (de_var 0) T.tup (by decide +kernel) I_tuple))) (dw_or (dt_ne c (de_lenV c T 0) de_int) (dw_or1 (dt_not (dt_val (de_call c F__law_is_tag Z__law_is_tag.g Z__law_is_tag.F.kp Z__law_is_tag.b (da_cons (de_itemV c 0 de_int) da_nil)))))))) (dss_one (ds_ret de_bl)) dss_nil)
      (dss_one (ds_ret (de_and (de_call c F__law_is_whole Z__law_is_whole.g Z__law_is_whole.F.kp Z__law_is_whole.b (da_cons (de_itemV c 0 de_int) da_nil)) (de_one (de_chain op_lt op_le bvLt bvLe de_int (de_itemV c 0 de_int) (de_pow de_int de_int))))))), fun ss R e hsp hl => ?_⟩
  obtain ⟨x, rfl, hk, hR⟩ := hsp
  refine isi_ok (isi_T hk.1) ?_
  cases ht : isT "tuple" x with
  | false => rw [pairOk_not ht] at hR; exact hR
  | true =>
    obtain ⟨ys, rfl⟩ := isTup ht
    refine ifF rfl ⟨okP_int, okP_int, ?_⟩
    by_cases hl2 : ys.length = 2
    · match ys, hl2 with
      | [a, b], _ =>
        have ka := hk.2 _ rfl a (by simp)
        have kb := hk.2 _ rfl b (by simp)
        refine ifF (ne_int 2 2) ?_
        have hR : R (.d (.bl (nameD a && betw b 1 1000000000))) [] := hR
        refine q_not (q_tst (q_call1 (itT (i := 0) (j := 0) rfl rfl ⟨rfl, a, rfl, ka, ?_⟩)))
        cases h1 : nameD a with
        | false => rw [h1] at hR; exact hR
        | true =>
          rw [h1, Bool.true_and] at hR
          refine ifF rfl (q_next ?_)
          dsimp only
          refine q_ret (q_andV (q_tst (q_call1 (itT (i := 0) (j := 1) rfl rfl ⟨rfl, b, rfl, kb, ?_⟩))))
          cases b with
          | int i =>
            refine ifT rfl (q_chain (q_c (itT (i := 0) (j := 1) rfl rfl ?_)))
            have hR : R (.d (.bl (decide (1 ≤ i) && decide (i ≤ 1000000000)))) [] := hR
            show (match (S.d (.bl (decide ((0 : Int) < i))) : S) with
              | .d (.bl true) => _
              | .d (.bl false) => _
              | _ => False)
            by_cases g1 : (0 : Int) < i
            · rw [decide_eq_true g1]
              rw [decide_eq_true (show (1 : Int) ≤ i by omega), Bool.true_and] at hR
              exact ⟨⟨by decide, by decide, by decide⟩, hR⟩
            · rw [decide_eq_false g1]
              rw [decide_eq_false (show ¬ (1 : Int) ≤ i by omega)] at hR
              exact hR
          | _ => exact hR
    · refine ifT ?_ (by rw [pairOk_len hl2] at hR; exact hR)
      rw [ne_int]
      have : ¬ ((ys.length : Nat) : Int) = 2 := by omega
      rw [decide_eq_false this]
      rfl
end
end QL
set_option Elab.async false
set_option linter.all false
set_option maxRecDepth 100000
set_option maxHeartbeats 4000000
namespace QL
open PySem L2
open PySem.W (Frag)
def nmK : D → Str
  | .str z => z
  | _ => ""
def badF (seen : List Str) (x : D) : Bool := !nameD x || decide (nmK x ∈ seen)
def scanF (xs : List D) : Option Nat := scanG badF nmK [] 0 xs
theorem names_of : ∀ {ys : List D}, (∀ x ∈ ys, nameD x = true) → ys = dstr (ys.map nmK)
  | [], _ => rfl
  | y :: ys, h => by
    obtain ⟨z, rfl, _⟩ := name_str (h y List.mem_cons_self)
    have ih := names_of (ys := ys) fun x hx => h x (List.mem_cons_of_mem _ hx)
    show D.str z :: ys = D.str z :: dstr (ys.map nmK)
    rw [← ih]
theorem badF_nm {seen : List Str} {x : D} (h : badF seen x = false) : nameD x = true ∧ nmK x ∉ seen := by
  unfold badF at h
  rw [Bool.or_eq_false_iff] at h
  refine ⟨?_, of_decide_eq_false h.2⟩
  cases hn : nameD x with
  | true => rfl
  | false => have := h.1; rw [hn] at this; cases this
theorem okP_strT (zs : List Str) : okP (.tup (dstr zs)) := okP_tmap (f := D.str) (n := 0) (fun _ => rfl) (fun z => Nat.le_of_eq (by simp [toP, PyData.depth])) (by decide) zs
abbrev s_check_on_grid : Stmt := top 40
abbrev n_check_on_grid : List Str := ["value", "grid", "index", "feed"]
theorem sc_check_on_grid : FnScope n_check_on_grid ["value", "grid"] (defScope s_check_on_grid) := ⟨rfl, rfl, rfl, by decide +kernel, rfl, by decide +kernel, by decide +kernel⟩
def psFeeds : PSp := fun ss R e => ∃ x g, ss = [.d x, .d g] ∧ knD x = true ∧ ((∃ xs, x = .tup xs ∧ xs.length < 1000 ∧ (∀ y ∈ xs, known y) ∧ (∀ i, scanF xs = some i → e (15, .int (i : Nat))) ∧ (scanF xs = none → (xs ≠ [] → isNon g = true → e (15, .non)) ∧ ((xs = [] ∨ isNon g = false) → R (.d .non) []))) ∨ (isT "tuple" x = false ∧ e (15, .non)))
section
variable {P : Program} {w : World} {G : Gw} {mg : Str → Option Value} {base : Heap} {k : Nat} {f : Addr} {fd : FuncData} {fN : Addr} {dN : FuncData} {t1 t2 t3 : Tok}
theorem p_feeds (F : Fun G.W.K "check_on_grid" "check_on_grid" s_check_on_grid f fd) (T : Bn mg) (IK : IsiK G) (m_LETTERS : mg "LETTERS" = some (.str lets t1)) (m_SIGNS : mg "SIGNS" = some (.str sgns t2)) (m_MAX_LENGTH : mg "MAX_LENGTH" = some (.int 8 t3))
    (Z_is_name : DefAt G.W.K mg "is_name" s_is_name fN dN ["value"]) (X_InvalidFeeds : ExcOk G P w mg 15 "InvalidFeeds" "index") :
    FnOk P w G.W.K mg base (L2N.CX P w) (k + 3) f fd ["value", "grid"] (toSp G 2 psFeeds) := by
  have I_tuple := IK.tup
  have F_is_name : FnOk P w G.W.K mg base (L2N.CX P w) (k + 2) fN dN ["value"] (toSp G 1 psName) := p_name Z_is_name.F T IK m_LETTERS m_SIGNS m_MAX_LENGTH
  refine fn_pure F sc_check_on_grid (by decide) fun cdv A outer s H E c => ⟨_, _, (dss_cons (ds_if (dt_not (dt_val (de_isB c T (de_var 0) T.tup (by decide +kernel) I_tuple))) (dss_one (ds_raise c X_InvalidFeeds de_non)) dss_nil)
      (dss_cons (ds_for c (di_enum c T (da_cons (de_var 0) da_nil)) (dg_tup (n := 2) c (dgs_cons (dg_name 2 c.nd) (dgs_cons (dg_name 3 c.nd) dgs_nil))) (dss_one (ds_if (dt_of (dw_or (dt_not (dt_val (de_call c F_is_name Z_is_name.g Z_is_name.F.kp Z_is_name.b (da_cons (de_var 3) da_nil)))) (dw_or1 (dt_in c (de_var 3) (de_cut c (de_var 0) do_none (do_some (de_var 2))))))) (dss_one (ds_raise c X_InvalidFeeds (de_var 2))) dss_nil)))
      (dss_one (ds_if (dt_of (dw_and (dt_gt (de_lenV c T 0) de_int) (dw_and1 (dt_is (de_var 1) de_non)))) (dss_one (ds_raise c X_InvalidFeeds de_non)) dss_nil)))), fun ss R e hsp hl => ?_⟩
  obtain ⟨x, g, rfl, hk, hh⟩ := hsp
  refine isi_ok (isi_T hk) ?_
  rcases hh with ⟨xs, rfl, hn, hkn, hE, hR⟩ | ⟨hx, he⟩
  · refine ifF rfl (q_next ?_)
    refine loopR_ind (fun done ρ => ∃ (x2 x3 : Option S), (∀ m, m < done.length → ∀ z, xs[m]? = some z → badF ((xs.take m).map nmK) z = false) ∧ ρ = [some (.d (.tup xs)), some (.d g), x2, x3]) ⟨none, none, fun m hm => absurd hm (Nat.not_lt_zero _), rfl⟩ ?_ ?_
    · rintro K done x rest ρ eds ⟨x2, x3, hgood, rfl⟩ hK
      obtain ⟨y, hy, rfl⟩ := enum_at eds
      have hyk := hkn y (List.mem_of_getElem? hy)
      have hnl : done.length < xs.length := (List.getElem?_eq_some_iff.mp hy).1
      have err : badF ((xs.take done.length).map nmK) y = true → e (15, .int (done.length : Nat)) := fun hb => hE _ (scanG_hit hy hgood hb)
      refine ⟨rfl, ltR rfl, ltR rfl, rfl, y, rfl, hyk.1, ?_⟩
      cases h1 : nameD y with
      | false => exact err (by unfold badF; rw [h1]; rfl)
      | true =>
        obtain ⟨z, rfl, hz⟩ := name_str h1
        have hall : ∀ x ∈ xs.take done.length, nameD x = true := fun x hx => by
          obtain ⟨i, hi⟩ := List.getElem?_of_mem hx
          rw [List.getElem?_take] at hi
          split at hi
          · rename_i hlt
            exact (badF_nm (hgood i hlt x hi)).1
          · cases hi
        have hnm := names_of hall
        refine ifF rfl (q_tst (q_bin (rv_d (i := 3) rfl (q_cut (rv_d (i := 0) rfl ⟨cut_ok hnl, ?_⟩)))))
        rw [cutD_take (by omega)]
        generalize hzs : (xs.take done.length).map nmK = zs at hnm err
        rw [hnm]
        refine ⟨okP_str, okP_strT zs, ?_⟩
        show if (((dstr zs).any fun w => eqD w (.str z)) != false) = true then _ else _
        rw [any_strs, bneF]
        by_cases hz2 : z ∈ zs
        · exact ifT (decide_eq_true hz2) (err (by unfold badF; rw [show decide (nmK (.str z) ∈ zs) = true from decide_eq_true hz2, Bool.or_true]))
        · refine ifF (decide_eq_false hz2) (hK _ ⟨_, _, fun m hm z2 hz3 => ?_, rfl⟩)
          rw [List.length_append, List.length_cons, List.length_nil] at hm
          by_cases hlt : m < done.length
          · exact hgood m hlt z2 hz3
          · have : m = done.length := by omega
            subst this
            rw [hy] at hz3
            cases hz3
            unfold badF
            rw [hzs, h1, show decide (nmK (.str z) ∈ zs) = false from decide_eq_false hz2]
            rfl
    · rintro ρ ⟨x2, x3, hgood, rfl⟩
      rw [enumD_len] at hgood
      obtain ⟨hA, hB⟩ := hR (scanG_all fun m hm => hgood m hm)
      show if decide ((0 : Int) < (xs.length : Nat)) = true then _ else _
      cases xs with
      | nil => exact hB (.inl rfl)
      | cons y ys =>
        refine ifT (decide_eq_true (by rw [List.length_cons]; omega)) (q_tst (is_d (i := 1) rfl ?_))
        cases hg : isNon g with
        | true => exact hA (by simp) hg
        | false => exact hB (.inr hg)
  · rw [hx]
    exact ifT rfl he
end
end QL
set_option Elab.async false
set_option linter.all false
set_option maxRecDepth 100000
set_option maxHeartbeats 4000000
namespace QL
open PySem L2
open PySem.W (Frag)
def istr (i : Int) : Str := Str.ofString (toString i)
theorem istr_ok {i : Int} (h0 : 0 ≤ i) (h1 : i ≤ 1000000000) : i.natAbs.log2 < 1920 ∧ (istr i).length ≤ 10 := by
  refine ⟨?_, PyProof.Rows.toString_length_le h0 (k := 10) (by decide) (by omega)⟩
  by_cases hz : i.natAbs = 0
  · rw [hz]
    decide
  · exact (Nat.log2_lt hz).mpr (Nat.lt_of_le_of_lt (show i.natAbs ≤ 2 ^ 30 by omega) (Nat.pow_lt_pow_right (by decide) (by decide)))
theorem sl {n : Nat} (h : n ≤ 1000) : n ≤ sizeLine := by rw [sizeLine_eq]; omega
def gridT : D → List Str
  | .tup [.int a, .int b] => [Str.empty ++ "grid " ++ istr a ++ " " ++ istr b]
  | _ => []
def apT : D → Str
  | .tup [.str z, .int i] => Str.empty ++ "apart " ++ z ++ " " ++ istr i
  | _ => ""
def onT : D → Str
  | .str z => Str.empty ++ "on " ++ z
  | _ => ""
def atT : D → List Str
  | .str z => [Str.empty ++ "at " ++ z]
  | _ => []
def partsT (net : D) (pairs ons : List D) (a : D) : List Str := gridT net ++ pairs.map apT ++ ons.map onT ++ atT a
def textOf (net : D) (pairs ons : List D) (a : D) : Str := if (partsT net pairs ons a).isEmpty = true then "any" else Txt.join "; " (partsT net pairs ons a)
theorem len_lit : ("grid " : Str).length = 5 ∧ ("apart " : Str).length = 6 ∧ ("on " : Str).length = 3 ∧ ("at " : Str).length = 3 ∧ (" " : Str).length = 1 ∧ (Str.empty).length = 0 ∧ ("; " : Str).length = 2 := by decide +kernel
theorem net_to {x : D} (h : netOk x = true) (h2 : isNon x = false) : ∃ a b, x = .tup [.int a, .int b] ∧ (0 ≤ a ∧ a ≤ 60) ∧ 0 ≤ b ∧ b ≤ 60 := by
  cases x with
  | tup xs =>
    match xs, h with
    | [.int a, .int b], h =>
      have h : ((decide (1 ≤ a) && decide (a ≤ 60)) && (decide (0 ≤ b) && decide (b ≤ a - 1))) = true := h
      simp only [Bool.and_eq_true, decide_eq_true_eq] at h
      exact ⟨a, b, rfl, ⟨by omega, by omega⟩, by omega, by omega⟩
    | [a, b], h =>
      cases a with
      | int i =>
        cases b with
        | int j =>
          have h : ((decide (1 ≤ i) && decide (i ≤ 60)) && (decide (0 ≤ j) && decide (j ≤ i - 1))) = true := h
          simp only [Bool.and_eq_true, decide_eq_true_eq] at h
          exact ⟨i, j, rfl, ⟨by omega, by omega⟩, by omega, by omega⟩
        | _ => cases h
      | _ => cases b <;> cases h
    | [], h => cases h
    | [_], h => cases h
    | _ :: _ :: _ :: _, h => cases h
  | non => cases h2
  | _ => cases h
theorem pair_to {x : D} (h : pairOk x = true) : ∃ z i, x = .tup [.str z, .int i] ∧ nameS z = true ∧ 0 ≤ i ∧ i ≤ 1000000000 := by
  match x, h with
  | .tup [a, b], h =>
    have h : (nameD a && betw b 1 1000000000) = true := h
    rw [Bool.and_eq_true] at h
    obtain ⟨z, rfl, hz⟩ := name_str h.1
    cases b with
    | int i =>
      have h2 : (decide (1 ≤ i) && decide (i ≤ 1000000000)) = true := h.2
      simp only [Bool.and_eq_true, decide_eq_true_eq] at h2
      exact ⟨z, i, rfl, hz, by omega, by omega⟩
    | _ => cases h.2
theorem strs_dstr : ∀ zs : List Str, strsD (dstr zs) = some zs
  | [] => rfl
  | z :: zs => by
    show (match strsD (dstr zs) with
      | some ys => some (z :: ys)
      | none => none) = _
    rw [strs_dstr zs]
theorem dstr_app (a b : List Str) : dstr (a ++ b) = dstr a ++ dstr b := by unfold dstr; rw [List.map_append]
theorem dstr_len (a : List Str) : (dstr a).length = a.length := List.length_map _
section
variable {ρ : Env} {R : S → Env → Prop} {e : XD → Prop}
theorem q_js {rs : List RE} (h : rJs rs Str.empty ρ (fun z ρ' => R (.d (.str z)) ρ') e) : (fun ρ R e => rJs rs Str.empty ρ (fun z ρ' => R (.d (.str z)) ρ') e : RE) ρ R e := h
theorem fmt_it {i j : Nat} {xs : List D} {n : Int} (h : ρ[i]? = some (some (.d (.tup xs)))) (hx : xs[j]? = some (.int n)) (h0 : 0 ≤ n) (h1 : n ≤ 1000000000) (k : R (.d (.str (istr n))) ρ) : rFmt (rItemV i (rC (.int (j : Nat)))) ρ R e := by
  unfold rFmt
  refine itT h hx ⟨⟨(istr_ok h0 h1).1, sl (by have := (istr_ok h0 h1).2; unfold istr at this; omega)⟩, k⟩
theorem fmt_i {i : Nat} {n : Int} (h : ρ[i]? = some (some (.d (.int n)))) (h0 : 0 ≤ n) (h1 : n ≤ 1000000000) (k : R (.d (.str (istr n))) ρ) : rFmt (rVar i) ρ R e := by
  unfold rFmt
  exact rv_d h ⟨⟨(istr_ok h0 h1).1, sl (by have := (istr_ok h0 h1).2; unfold istr at this; omega)⟩, k⟩
theorem fmt_s {i : Nat} {z : Str} (h : ρ[i]? = some (some (.d (.str z)))) (k : R (.d (.str z)) ρ) : rFmt (rVar i) ρ R e := by
  unfold rFmt
  exact rv_d h k
section
variable {rs : List RE} {acc : Str} {T : Str → Env → Prop}
theorem js_nil (h : T acc ρ) : rJs [] acc ρ T e := h
theorem js_c {y : Str} (h1 : (acc ++ y).length ≤ sizeLine) (h : rJs rs (acc ++ y) ρ T e) : rJs (rC (.str y) :: rs) acc ρ T e := ⟨h1, h⟩
theorem js_s (i : Nat) {z : Str} (hi : ρ[i]? = some (some (.d (.str z)))) (h1 : (acc ++ z).length ≤ sizeLine) (h : rJs rs (acc ++ z) ρ T e) : rJs (rFmt (rVar i) :: rs) acc ρ T e := fmt_s hi ⟨h1, h⟩
theorem js_i (i : Nat) {n : Int} (hi : ρ[i]? = some (some (.d (.int n)))) (h0 : 0 ≤ n) (hn : n ≤ 1000000000) (h1 : (acc ++ istr n).length ≤ sizeLine) (h : rJs rs (acc ++ istr n) ρ T e) : rJs (rFmt (rVar i) :: rs) acc ρ T e := fmt_i hi h0 hn ⟨h1, h⟩
theorem js_it (i j : Nat) {xs : List D} {n : Int} (hi : ρ[i]? = some (some (.d (.tup xs)))) (hx : xs[j]? = some (.int n)) (h0 : 0 ≤ n) (hn : n ≤ 1000000000) (h1 : (acc ++ istr n).length ≤ sizeLine) (h : rJs rs (acc ++ istr n) ρ T e) : rJs (rFmt (rItemV i (rC (.int (j : Nat)))) :: rs) acc ρ T e := fmt_it hi hx h0 hn ⟨h1, h⟩
end
end
abbrev s_setting_text : Stmt := top 41
abbrev n_setting_text : List Str := ["grid", "apart", "on_grid", "at_rows", "parts", "feed", "number"]
theorem sc_setting_text : FnScope n_setting_text ["grid", "apart", "on_grid", "at_rows"] (defScope s_setting_text) := ⟨rfl, rfl, rfl, by decide +kernel, rfl, by decide +kernel, by decide +kernel⟩
def psText : PSp := fun ss R _ => ∃ net pairs ons a, ss = [.d net, .d (.tup pairs), .d (.tup ons), .d a] ∧ netOk net = true ∧ (∀ x ∈ pairs, pairOk x = true) ∧ (∀ x ∈ ons, nameD x = true) ∧ (isNon a = true ∨ nameD a = true) ∧ pairs.length ≤ 20 ∧ ons.length ≤ 20 ∧ R (.d (.str (textOf net pairs ons a))) []
theorem sum_le {n : Nat} : ∀ {zs : List Str}, (∀ z ∈ zs, z.length ≤ n) → (zs.map (·.length)).sum ≤ zs.length * n
  | [], _ => Nat.zero_le _
  | z :: zs, h => by
    have ih := sum_le (zs := zs) fun y hy => h y (List.mem_cons_of_mem _ hy)
    have := h z List.mem_cons_self
    rw [List.map_cons, List.sum_cons, List.length_cons, Nat.add_mul]
    omega
theorem apT_len {x : D} (h : pairOk x = true) : (apT x).length ≤ 40 := by
  obtain ⟨z, i, rfl, hz, h0, h1⟩ := pair_to h
  obtain ⟨l1, l2, l3, l4, l5, l6, l7⟩ := len_lit
  have := (name_ok hz).2.2
  have := (istr_ok h0 h1).2
  show (Str.empty ++ "apart " ++ z ++ " " ++ istr i).length ≤ 40
  rw [Str.length_append, Str.length_append, Str.length_append, Str.length_append]
  omega
theorem onT_len {x : D} (h : nameD x = true) : (onT x).length ≤ 40 := by
  obtain ⟨z, rfl, hz⟩ := name_str h
  obtain ⟨l1, l2, l3, l4, l5, l6, l7⟩ := len_lit
  have := (name_ok hz).2.2
  show (Str.empty ++ "on " ++ z).length ≤ 40
  rw [Str.length_append, Str.length_append]
  omega
theorem parts_ok {net : D} {pairs ons : List D} {a : D} (h1 : netOk net = true) (h2 : ∀ x ∈ pairs, pairOk x = true) (h3 : ∀ x ∈ ons, nameD x = true) (h4 : isNon a = true ∨ nameD a = true) (l1 : pairs.length ≤ 20) (l2 : ons.length ≤ 20) :
    (partsT net pairs ons a).length ≤ 42 ∧ ∀ z ∈ partsT net pairs ons a, z.length ≤ 40 := by
  obtain ⟨g1, g2, g3, g4, g5, g6, g7⟩ := len_lit
  have hg : (gridT net).length ≤ 1 ∧ ∀ z ∈ gridT net, z.length ≤ 40 := by
    cases hn : isNon net with
    | true =>
      have : net = .non := by cases net <;> first | rfl | cases hn
      subst this
      exact ⟨Nat.zero_le _, fun z hz => nomatch hz⟩
    | false =>
      obtain ⟨i, j, rfl, ⟨i0, i1⟩, j0, j1⟩ := net_to h1 hn
      refine ⟨Nat.le_refl _, fun z hz => ?_⟩
      rw [show gridT (.tup [.int i, .int j]) = [Str.empty ++ "grid " ++ istr i ++ " " ++ istr j] from rfl] at hz
      rw [List.mem_singleton.mp hz, Str.length_append, Str.length_append, Str.length_append, Str.length_append]
      have := (istr_ok i0 (by omega)).2
      have := (istr_ok j0 (by omega)).2
      omega
  have ha : (atT a).length ≤ 1 ∧ ∀ z ∈ atT a, z.length ≤ 40 := by
    rcases h4 with h4 | h4
    · have : a = .non := by cases a <;> first | rfl | cases h4
      subst this
      exact ⟨Nat.zero_le _, fun z hz => nomatch hz⟩
    · obtain ⟨z, rfl, hz⟩ := name_str h4
      refine ⟨Nat.le_refl _, fun y hy => ?_⟩
      rw [show atT (.str z) = [Str.empty ++ "at " ++ z] from rfl] at hy
      rw [List.mem_singleton.mp hy, Str.length_append, Str.length_append]
      have := (name_ok hz).2.2
      omega
  unfold partsT
  refine ⟨?_, fun z hz => ?_⟩
  · rw [List.length_append, List.length_append, List.length_append, List.length_map, List.length_map]
    omega
  · rcases List.mem_append.mp hz with hz | hz
    · rcases List.mem_append.mp hz with hz | hz
      · rcases List.mem_append.mp hz with hz | hz
        · exact hg.2 z hz
        · obtain ⟨x, hx, rfl⟩ := List.mem_map.mp hz
          exact apT_len (h2 x hx)
      · obtain ⟨x, hx, rfl⟩ := List.mem_map.mp hz
        exact onT_len (h3 x hx)
    · exact ha.2 z hz
section
variable {P : Program} {w : World} {G : Gw} {mg : Str → Option Value} {base : Heap} {k : Nat} {f : Addr} {fd : FuncData}
theorem p_text (F : Fun G.W.K "setting_text" "setting_text" s_setting_text f fd) (T : Bn mg) : FnOk P w G.W.K mg base (L2N.CX P w) (k + 1) f fd ["grid", "apart", "on_grid", "at_rows"] (toSp G 4 psText) := by
  refine fn_pure F sc_setting_text (by decide) fun cdv A outer s H E c => ⟨_, _, (dss_cons (ds_set (i := 4) (de_ifE (dt_is (de_var 0) de_non) (de_lst da_nil) (de_lst (da_cons (de_js (.cons de_str (.cons (de_fmt (de_itemV c 0 de_int)) (.cons de_str (.cons (de_fmt (de_itemV c 0 de_int)) .nil))))) da_nil))) c.nd)
      (dss_cons (ds_set (i := 4) (de_add c (de_add c (de_var 4) (de_lc (own := [("feed", 5), ("number", 6)]) c (di_seq c (de_var 1)) (blkOk_by (N := n_setting_text) (sc := defScope s_setting_text) (by decide +kernel)) (fun _ _ _ _ _ => (dg_tup (n := 2) c.blk (dgs_cons (dg_name 5 c.blk.nd) (dgs_cons (dg_name 6 c.blk.nd) dgs_nil)))) (fun _ _ _ _ _ => dts_nil) (fun _ _ _ _ _ => (de_js (.cons de_str (.cons (de_fmt (de_var 5)) (.cons de_str (.cons (de_fmt (de_var 6)) .nil)))))))) (de_lc (own := [("feed", 5)]) c (di_seq c (de_var 2)) (blkOk_by (N := n_setting_text) (sc := defScope s_setting_text) (by decide +kernel)) (fun _ _ _ _ _ => (dg_name 5 c.nd)) (fun _ _ _ _ _ => dts_nil) (fun _ _ _ _ _ => (de_js (.cons de_str (.cons (de_fmt (de_var 5)) .nil)))))) c.nd)
      (dss_cons (ds_if (dt_isNot (de_var 3) de_non) (dss_one (ds_expr (de_append c 4 (de_js (.cons de_str (.cons (de_fmt (de_var 3)) .nil)))))) dss_nil)
      (dss_one (ds_ret (de_ifE (dt_tru c (de_var 4)) (de_join c de_str (de_var 4)) de_str)))))), fun ss R e hsp hl => ?_⟩
  obtain ⟨net, pairs, ons, a, rfl, h1, h2, h3, h4, l1, l2, hR⟩ := hsp
  obtain ⟨g1, g2, g3, g4, g5, g6, g7⟩ := len_lit
  obtain ⟨pl, pz⟩ := parts_ok h1 h2 h3 h4 l1 l2
  have hgl : (gridT net).length ≤ 1 := by
    have : (gridT net).length ≤ (partsT net pairs ons a).length := by unfold partsT; rw [List.length_append, List.length_append, List.length_append]; omega
    unfold gridT
    split <;> simp
  -- the grid
  have s0 : ∀ (R : S → Env → Prop) (e : XD → Prop), (∀ q, R (.m q (.lst (dstr (gridT net)))) (startR [.d net, .d (.tup pairs), .d (.tup ons), .d a] n_setting_text.length)) → rIfE (rTst (rBin (lift2 (gIs false)) (rVar 0) (rC .non))) (rLst rNil) (rLst (rCons (fun ρ R e => rJs [rC (.str "grid "), rFmt (rItemV 0 (rC (.int 0))), rC (.str " "), rFmt (rItemV 0 (rC (.int 1)))] Str.empty ρ (fun z ρ' => R (.d (.str z)) ρ') e) rNil)) (startR [.d net, .d (.tup pairs), .d (.tup ons), .d a] n_setting_text.length) R e := by
    intro R e hk
    refine q_ifE (q_tst (is_d (i := 0) rfl ?_))
    cases hn : isNon net with
    | true =>
      have : net = .non := by cases net <;> first | rfl | cases hn
      subst this
      exact ifT rfl ⟨leN rfl, fun q => hk q⟩
    | false =>
      obtain ⟨i, j, rfl, ⟨i0, i1⟩, j0, j1⟩ := net_to h1 hn
      have := (istr_ok i0 (by omega)).2
      have := (istr_ok j0 (by omega)).2
      refine ifF rfl (q_cons ?_)
      refine js_c (sl (by rw [Str.length_append]; omega)) ?_
      refine js_it 0 0 rfl rfl i0 (by omega) (sl (by rw [Str.length_append, Str.length_append]; omega)) ?_
      refine js_c (sl (by rw [Str.length_append, Str.length_append, Str.length_append]; omega)) ?_
      refine js_it 0 1 rfl rfl j0 (by omega) (sl (by rw [Str.length_append, Str.length_append, Str.length_append, Str.length_append]; omega)) (js_nil ?_)
      exact ⟨leN rfl, fun q => hk q⟩
  refine s0 _ _ fun q0 => ⟨ltR rfl, ?_⟩
  refine toE (ρ' := [some (.d net), some (.d (.tup pairs)), some (.d (.tup ons)), some (.d a), some (.m q0 (.lst (dstr (gridT net)))), none, none]) rfl ?_
  dsimp only
  refine q_seq (q_set (q_bin (q_bin (rv_m (i := 4) rfl rfl ⟨by rw [sizeLine_eq]; omega, fun q1 => ?_⟩))))
  refine lcR_ind (fun done acc ρ => acc = dstr (done.map apT) ∧ ∃ x5 x6, ρ = [some (.d net), some (.d (.tup pairs)), some (.d (.tup ons)), some (.d a), some (.d (.lst (dstr (gridT net)))), x5, x6]) ⟨rfl, none, none, rfl⟩ ?_ ?_
  · rintro K done x rest acc ρ eds ⟨rfl, x5, x6, rfl⟩ hK
    have hx : pairOk x = true := h2 x (by rw [eds]; exact List.mem_append_right _ List.mem_cons_self)
    obtain ⟨z, i, rfl, hz, i0, i1⟩ := pair_to hx
    have := (name_ok hz).2.2
    have := (istr_ok i0 i1).2
    refine ⟨rfl, ltR rfl, ltR rfl, ?_⟩
    refine js_c (sl (by rw [Str.length_append]; omega)) ?_
    refine js_s 5 rfl (sl (by rw [Str.length_append, Str.length_append]; omega)) ?_
    refine js_c (sl (by rw [Str.length_append, Str.length_append, Str.length_append]; omega)) ?_
    refine js_i 6 rfl i0 i1 (sl (by rw [Str.length_append, Str.length_append, Str.length_append, Str.length_append]; omega)) (js_nil ?_)
    refine opt_ok rfl (hK _ _ ⟨?_, _, _, rfl⟩)
    rw [List.map_append, dstr_app]
    rfl
  · rintro acc ρ ⟨rfl, x5, x6, rfl⟩
    refine ⟨by rw [dstr_len, dstr_len, List.length_map, sizeLine_eq]; omega, fun q2 => ?_⟩
    refine ⟨by rw [sizeLine_eq]; omega, fun q3 => ?_⟩
    refine lcR_ind (fun done acc ρ => acc = dstr (done.map onT) ∧ ∃ x5 x6, ρ = [some (.d net), some (.d (.tup pairs)), some (.d (.tup ons)), some (.d a), some (.d (.lst (dstr (gridT net)))), x5, x6]) ⟨rfl, none, none, rfl⟩ ?_ ?_
    · rintro K done x rest acc ρ eds ⟨rfl, x5, x6, rfl⟩ hK
      have hx : nameD x = true := h3 x (by rw [eds]; exact List.mem_append_right _ List.mem_cons_self)
      obtain ⟨z, rfl, hz⟩ := name_str hx
      have := (name_ok hz).2.2
      refine ⟨ltR rfl, ?_⟩
      refine js_c (sl (by rw [Str.length_append]; omega)) ?_
      refine js_s 5 rfl (sl (by rw [Str.length_append, Str.length_append]; omega)) (js_nil ?_)
      refine opt_ok rfl (hK _ _ ⟨?_, _, _, rfl⟩)
      rw [List.map_append, dstr_app]
      rfl
    · rintro acc ρ ⟨rfl, x5, x6, rfl⟩
      refine ⟨by rw [List.length_append, dstr_len, dstr_len, dstr_len, List.length_map, List.length_map, sizeLine_eq]; omega, fun q4 => ⟨ltR rfl, ?_⟩⟩
      rw [← dstr_app, ← dstr_app]
      have fin : ∀ ps : List Str, ps = partsT net pairs ons a → ∀ x5 x6 : Option S, rIfE (rTru (rVar 4)) (rJoin (rC (.str "; ")) (rVar 4)) (rC (.str "any")) [some (.d net), some (.d (.tup pairs)), some (.d (.tup ons)), some (.d a), some (.m q4 (.lst (dstr ps))), x5, x6] (defEnds 4 R e).rt e := by
        intro ps hps x5 x6
        have hR : R (.d (.str (if ps.isEmpty = true then "any" else Txt.join "; " ps))) [] := by
          rw [hps]
          exact hR
        refine q_ifE ?_
        unfold rTru
        refine rv_m (i := 4) rfl rfl ?_
        have e0 : (!(dstr ps).isEmpty) = !ps.isEmpty := by cases ps <;> rfl
        show if (!(dstr ps).isEmpty) = true then _ else _
        rw [e0]
        cases hpe : ps.isEmpty with
        | true =>
          rw [hpe] at hR
          exact ifF rfl hR
        | false =>
          rw [hpe] at hR
          refine ifT rfl ?_
          refine opt_ok (strs_dstr ps) ⟨?_, hR⟩
          have s1 := sum_le (zs := ps) (n := 40) (by rw [hps]; exact pz)
          rw [← hps] at pl
          rw [g7]
          have : ps.length * 40 ≤ 42 * 40 := Nat.mul_le_mul_right _ pl
          omega
      dsimp only
      refine q_seq (q_if (q_tst (isNot_d (i := 3) rfl ?_)))
      cases hn : isNon a with
      | true =>
        have : a = .non := by cases a <;> first | rfl | cases hn
        subst this
        refine ifF rfl (q_next ?_)
        exact fin _ (by unfold partsT; rw [show atT .non = [] from rfl, List.append_nil]) _ _
      | false =>
        obtain ⟨z, rfl, hz⟩ := name_str (h4.resolve_left (by rw [hn]; simp))
        have := (name_ok hz).2.2
        refine ifT rfl ⟨⟨_, _, rfl⟩, ?_⟩
        refine js_c (sl (by rw [Str.length_append]; omega)) ?_
        refine js_s 3 rfl (sl (by rw [Str.length_append, Str.length_append]; omega)) (js_nil ?_)
        refine ⟨by rw [dstr_len, List.length_append, List.length_append, List.length_map, List.length_map, sizeLine_eq]; omega, ?_⟩
        have zf := fin (gridT net ++ pairs.map apT ++ ons.map onT ++ atT (.str z)) rfl none x6
        rw [dstr_app (gridT net ++ pairs.map apT ++ ons.map onT)] at zf
        exact zf
end
end QL
set_option Elab.async false
set_option linter.all false
set_option maxRecDepth 100000
set_option maxHeartbeats 4000000
namespace QL
open PySem L2
open PySem.W (Frag)
/-! ### sorted -/
theorem sort_mem {xs : List D} {x : D} : x ∈ sortD xs ↔ x ∈ xs := by
  unfold sortD
  exact List.mem_mergeSort
theorem sort_len (xs : List D) : (sortD xs).length = xs.length := by
  unfold sortD
  exact List.length_mergeSort _
theorem al_of {xs : List D} (h : ∀ x ∈ xs, ∀ y ∈ xs, PySem.W.alike (toP x) (toP y) = true) : PySem.W.AllAlike (xs.map toP) := fun d hd d' hd' => by
  obtain ⟨x, hx, rfl⟩ := List.mem_map.mp hd
  obtain ⟨y, hy, rfl⟩ := List.mem_map.mp hd'
  exact h x hx y hy
theorem pls_of : ∀ {xs : List D}, (∀ x ∈ xs, plD x = true) → plDs xs = true
  | [], _ => rfl
  | x :: xs, h => by
    show (plD x && plDs xs) = true
    rw [h x List.mem_cons_self, pls_of fun y hy => h y (List.mem_cons_of_mem _ hy)]
    rfl
theorem srt_pairs {xs : List D} (h : ∀ x ∈ xs, pairOk x = true) : Srt xs := by
  refine ⟨pls_of fun x hx => ?_, al_of fun x hx y hy => ?_, .inl fun d hd => ?_, fun x hx => ?_⟩
  · obtain ⟨z, i, rfl, _⟩ := pair_to (h x hx)
    rfl
  · obtain ⟨z, i, rfl, _⟩ := pair_to (h x hx)
    obtain ⟨z', i', rfl, _⟩ := pair_to (h y hy)
    first
      | rfl
      | simp [toP, toPs, PySem.W.alike]
  · obtain ⟨x, hx, rfl⟩ := List.mem_map.mp hd
    obtain ⟨z, i, rfl, _⟩ := pair_to (h x hx)
    exact ⟨_, _, rfl⟩
  · obtain ⟨z, i, rfl, _⟩ := pair_to (h x hx)
    simp [toP, toPs, PyData.depth, PyData.depthAll]
theorem srt_names {xs : List D} (h : ∀ x ∈ xs, nameD x = true) : Srt xs := by
  refine ⟨pls_of fun x hx => ?_, al_of fun x hx y hy => ?_, .inr fun d hd => ?_, fun x hx => ?_⟩
  · obtain ⟨z, rfl, _⟩ := name_str (h x hx)
    rfl
  · obtain ⟨z, rfl, _⟩ := name_str (h x hx)
    obtain ⟨z', rfl, _⟩ := name_str (h y hy)
    first
      | rfl
      | simp [toP, toPs, PySem.W.alike]
  · obtain ⟨x, hx, rfl⟩ := List.mem_map.mp hd
    obtain ⟨z, rfl, _⟩ := name_str (h x hx)
    exact ⟨(fun e => by cases e), (fun xs e => by cases e)⟩
  · obtain ⟨z, rfl, _⟩ := name_str (h x hx)
    simp [toP, PyData.depth]
theorem scanP_ok {xs : List D} (h : scanP xs = none) : ∀ x ∈ xs, pairOk x = true := fun x hx => by
  obtain ⟨n, hn⟩ := List.getElem?_of_mem hx
  have z := scanG_none h hn
  cases hp : pairOk x with
  | true => rfl
  | false => rw [bad_of hp] at z; cases z
theorem scanF_ok {xs : List D} (h : scanF xs = none) : ∀ x ∈ xs, nameD x = true := fun x hx => by
  obtain ⟨n, hn⟩ := List.getElem?_of_mem hx
  exact (badF_nm (scanG_none h hn)).1
/-- the error that is due for a setting -/
def setDue (net pairs ons a : D) : Option XD :=
  if netOk net = false then some (6, net) else match pairs with
  | .tup ps => match scanP ps with
    | some i => some (14, .int (i : Nat))
    | none => match ons with
      | .tup os => match scanF os with
        | some i => some (15, .int (i : Nat))
        | none => if !os.isEmpty && isNon net then some (15, .non) else if isNon a || nameD a then none else some (0, a)
      | _ => some (15, .non)
  | _ => some (14, .non)
/-- a setting of what was told, sorted -/
def setD (p : Addr) (net : D) (ps os : List D) (a : D) : D := .ins 23 p ["known", "text"] [.tup [net, .tup (sortD ps), .tup (sortD os), a], .str (textOf net (sortD ps) (sortD os) a)]
def kn2 (x : D) : Prop := knD x = true ∧ ∀ xs, x = .tup xs → xs.length ≤ 20 ∧ ∀ y ∈ xs, known y
abbrev s_Written___init__ : Stmt := item (top 35) 1
abbrev n_Written___init__ : List Str := ["self", "text"]
theorem sc_Written___init__ : FnScope n_Written___init__ ["self", "text"] (defScope s_Written___init__) := ⟨rfl, rfl, rfl, by decide +kernel, rfl, by decide +kernel, by decide +kernel⟩
abbrev s_Written___str__ : Stmt := item (top 35) 2
abbrev n_Written___str__ : List Str := ["self"]
theorem sc_Written___str__ : FnScope n_Written___str__ ["self"] (defScope s_Written___str__) := ⟨rfl, rfl, rfl, by decide +kernel, rfl, by decide +kernel, by decide +kernel⟩
abbrev s_Setting___init__ : Stmt := item (top 42) 1
abbrev n_Setting___init__ : List Str := ["self", "grid", "apart", "on_grid", "at_rows"]
theorem sc_Setting___init__ : FnScopeS n_Setting___init__ ["self", "grid", "apart", "on_grid", "at_rows"] (defScope s_Setting___init__) := ⟨rfl, rfl, rfl, by decide +kernel, rfl, by decide +kernel, by decide +kernel, by decide +kernel, rfl, rfl⟩
def psWInit : PSp := fun ss R _ => ∃ a c ns xs z, ss = [.m a (.obj c ns xs), .d (.str z)] ∧ c ∈ [23] ∧ ("text" : Str) ∉ ns ∧ ns.length < 1000 ∧ R (.d .non) [(a, .obj c (ns ++ [("text" : Str)]) (xs ++ [.str z]))]
def psWStr : PSp := fun ss R _ => ∃ c a ns xs z, ss = [.d (.ins c a ns xs)] ∧ c ∈ [23] ∧ getG ns xs "text" = some (.str z) ∧ R (.d (.str z)) []
def psSet : PSp := fun ss R e => ∃ a net pairs ons at_, ss = [.m a (.obj 23 [] []), .d net, .d pairs, .d ons, .d at_] ∧ kn2 net ∧ kn2 pairs ∧ kn2 ons ∧ knD at_ = true ∧ (∀ x, setDue net pairs ons at_ = some x → e x) ∧
  (setDue net pairs ons at_ = none → ∀ ps os, pairs = .tup ps → ons = .tup os → R (.d .non) [(a, .obj 23 ["known", "text"] [.tup [net, .tup (sortD ps), .tup (sortD os), at_], .str (textOf net (sortD ps) (sortD os) at_)])])
section
variable {P : Program} {w : World} {G : Gw} {mg : Str → Option Value} {base : Heap} {k : Nat} {f D0 : Addr} {fd : FuncData} {kws : List (Str × V)} {fG fA fF fN fT fW : Addr} {dG dA dF dN dT dW : FuncData}
theorem p_winit (F : Fun G.W.K "__init__" "Written.__init__" s_Written___init__ f fd) (FO_text : FldOk G [23] "text") : FnOk P w G.W.K mg base (L2N.CX P w) (k + 1) f fd ["self", "text"] (toSp G 2 psWInit) := by
  refine fn_pure F sc_Written___init__ (by decide) fun cdv A outer s H E c => ⟨_, _, (dss_one (ds_fsetC c 0 FO_text (de_var 1))), fun ss R e hsp hl => ?_⟩
  obtain ⟨a, c0, ns, xs, z, rfl, hc, hn, hl2, hR⟩ := hsp
  exact ⟨⟨hc, hl2, hn⟩, hR⟩
theorem p_wstr (F : Fun G.W.K "__str__" "Written.__str__" s_Written___str__ f fd) (FO_text : FldOk G [23] "text") : FnOk P w G.W.K mg base (L2N.CX P w) (k + 1) f fd ["self"] (toSp G 1 psWStr) := by
  refine fn_pure F sc_Written___str__ (by decide) fun cdv A outer s H E c => ⟨_, _, (dss_one (ds_ret (de_js1 (de_fmt (de_fld c FO_text (de_var 0)))))), fun ss R e hsp hl => ?_⟩
  obtain ⟨c0, a, ns, xs, z, rfl, hc, hg, hR⟩ := hsp
  exact ⟨hc, opt_ok hg hR⟩
theorem p_set (F : FunS P G.W.K mg "__init__" "Setting.__init__" s_Setting___init__ kws f D0 fd) (T : Bn mg) (FO_known : FldOk G [23] "known") (SM___init__ : ∀ c ∈ [23], SupM G.W.K (G.W.CA c) D0 "__init__" fW) (SF___init__ : FnOk P w G.W.K mg base (L2N.CX P w) (k + 3) fW dW ["self", "text"] (toSp G 2 psWInit)) (SB___init__ : Binds G.W.K dW ["self", "text"] [])
    (Z_check_grid : DefAt G.W.K mg "check_grid" s_check_grid fG dG ["value"]) (F_check_grid : FnOk P w G.W.K mg base (L2N.CX P w) (k + 3) fG dG ["value"] (toSp G 1 psGrid))
    (Z_check_apart : DefAt G.W.K mg "check_apart" s_check_apart fA dA ["value"]) (F_check_apart : FnOk P w G.W.K mg base (L2N.CX P w) (k + 3) fA dA ["value"] (toSp G 1 psApart))
    (Z_check_on_grid : DefAt G.W.K mg "check_on_grid" s_check_on_grid fF dF ["value", "grid"]) (F_check_on_grid : FnOk P w G.W.K mg base (L2N.CX P w) (k + 3) fF dF ["value", "grid"] (toSp G 2 psFeeds))
    (Z_is_name : DefAt G.W.K mg "is_name" s_is_name fN dN ["value"]) (F_is_name : FnOk P w G.W.K mg base (L2N.CX P w) (k + 3) fN dN ["value"] (toSp G 1 psName))
    (Z_setting_text : DefAt G.W.K mg "setting_text" s_setting_text fT dT ["grid", "apart", "on_grid", "at_rows"]) (F_setting_text : FnOk P w G.W.K mg base (L2N.CX P w) (k + 3) fT dT ["grid", "apart", "on_grid", "at_rows"] (toSp G 4 psText))
    (X_InvalidName : ExcOk G P w mg 0 "InvalidName" "value") :
    FnOk P w G.W.K mg base (L2N.CX P w) (k + 4) f fd ["self", "grid", "apart", "on_grid", "at_rows"] (toSp G 5 psSet) := by
  refine fn_pureS F sc_Setting___init__ (by decide) rfl rfl rfl fun cda cc A outer s H E ST c => ⟨_, _, (dssA_cons (DS.at_ (ds_expr (de_call c F_check_grid Z_check_grid.g Z_check_grid.F.kp Z_check_grid.b (da_cons (de_var 1) da_nil))))
      (dssA_cons (DS.at_ (ds_expr (de_call c F_check_apart Z_check_apart.g Z_check_apart.F.kp Z_check_apart.b (da_cons (de_var 2) da_nil))))
      (dssA_cons (DS.at_ (ds_expr (de_call c F_check_on_grid Z_check_on_grid.g Z_check_on_grid.F.kp Z_check_on_grid.b (da_cons (de_var 3) (da_cons (de_var 1) da_nil)))))
      (dssA_cons (DS.at_ (ds_if (dt_of (dw_and (dt_isNot (de_var 4) de_non) (dw_and1 (dt_not (dt_val (de_call c F_is_name Z_is_name.g Z_is_name.F.kp Z_is_name.b (da_cons (de_var 4) da_nil))))))) (dss_one (ds_raise c X_InvalidName (de_var 4))) dss_nil))
      (dssA_cons (DS.at_ (ds_fsetC c 0 FO_known (de_tup (da_cons (de_var 1) (da_cons (de_tuple c T (da_cons (de_sorted c T (da_cons (de_var 2) da_nil)) da_nil)) (da_cons (de_tuple c T (da_cons (de_sorted c T (da_cons (de_var 3) da_nil)) da_nil)) (da_cons (de_var 4) da_nil)))))))
      (dssA_cons (dsA_super 0 c ST SM___init__ (fnR_of SF___init__ SB___init__) (da_cons (de_callY c F_setting_text Z_setting_text.g Z_setting_text.F.kp Z_setting_text.b (de_fldV c 0 FO_known)) da_nil))
      (DSs.at_ dss_nil))))))), fun ss R e hsp hl => ?_⟩
  obtain ⟨a, net, pairs, ons, at_, rfl, kn, kp, ko, ka, hE, hR⟩ := hsp
  refine ⟨rfl, net, rfl, kn.1, fun xs ex y hy => ((kn.2 xs ex).2 y hy).1, fun h1 => ?_, fun h1 => hE _ (by unfold setDue; rw [if_pos h1])⟩
  have n1 : ¬ netOk net = false := by rw [h1]; simp
  refine ⟨rfl, pairs, rfl, kp.1, ?_⟩
  cases ht : isT "tuple" pairs with
  | false =>
    refine .inr ⟨rfl, hE _ ?_⟩
    unfold setDue
    rw [if_neg n1]
    cases pairs with
    | tup _ => cases ht
    | _ => rfl
  | true =>
    obtain ⟨ps, rfl⟩ := isTup ht
    obtain ⟨lp, kps⟩ := kp.2 ps rfl
    refine .inl ⟨ps, rfl, by omega, kps, fun i hi => hE _ (by unfold setDue; rw [if_neg n1]; dsimp only; rw [hi]), fun hsp => ?_⟩
    refine ⟨rfl, ons, net, rfl, ko.1, ?_⟩
    cases ht2 : isT "tuple" ons with
    | false =>
      refine .inr ⟨rfl, hE _ ?_⟩
      unfold setDue
      rw [if_neg n1]
      dsimp only
      rw [hsp]
      cases ons with
      | tup _ => cases ht2
      | _ => rfl
    | true =>
      obtain ⟨os, rfl⟩ := isTup ht2
      obtain ⟨lo, kos⟩ := ko.2 os rfl
      have due : ∀ r, scanF os = r → setDue net (.tup ps) (.tup os) at_ = match r with
          | some i => some (15, .int (i : Nat))
          | none => if !os.isEmpty && isNon net then some (15, .non) else if isNon at_ || nameD at_ then none else some (0, at_) := fun r hr => by
        unfold setDue
        rw [if_neg n1]
        dsimp only
        rw [hsp]
        dsimp only
        rw [hr]
      refine .inl ⟨os, rfl, by omega, kos, fun i hi => hE _ (due _ hi), fun hso => ⟨fun o1 o2 => hE _ ?_, fun o3 => ?_⟩⟩
      · rw [due _ hso]
        dsimp only
        rw [o2]
        cases os with
        | nil => exact absurd rfl o1
        | cons _ _ => rfl
      have o4 : (!os.isEmpty && isNon net) = false := by
        rcases o3 with rfl | o3
        · rfl
        · rw [o3, Bool.and_false]
      have due2 : setDue net (.tup ps) (.tup os) at_ = if isNon at_ || nameD at_ then none else some (0, at_) := by
        rw [due _ hso]
        dsimp only
        rw [o4]
        rfl
      have rest : (isNon at_ || nameD at_) = true → R (.d .non) [(a, .obj 23 ["known", "text"] [.tup [net, .tup (sortD ps), .tup (sortD os), at_], .str (textOf net (sortD ps) (sortD os) at_)])] := fun h => hR (by rw [due2, if_pos h]) ps os rfl rfl
      have hps := scanP_ok hsp
      have hos := scanF_ok hso
      -- the last statements
      have tail : (isNon at_ || nameD at_) = true → sSeq (sFsetC 0 [23] "known" (rTup (rCons (rVar 1) (rCons (rCB (lift1 gTuple) (rCons (rCB (lift1 gSort) (rCons (rVar 2) rNil)) rNil)) (rCons (rCB (lift1 gTuple) (rCons (rCB (lift1 gSort) (rCons (rVar 3) rNil)) rNil)) (rCons (rVar 4) rNil)))))) (sSeq (sSup [23] 2 0 psWInit (rCons (rCallY 4 psText (rFldV [23] 0 "known")) rNil)) sNext) (defEnds 5 R e) [some (.m a (.obj 23 [] [])), some (.d net), some (.d (.tup ps)), some (.d (.tup os)), some (.d at_)] := fun hat => by
        refine ⟨srt_pairs hps, fun _ => ⟨srt_names hos, fun _ => ⟨leN rfl, ⟨⟨by decide, by decide, by decide⟩, ?_⟩⟩⟩⟩
        refine ⟨⟨_, _, _, _, rfl, by decide⟩, ⟨_, rfl⟩, ⟨by decide, ?_⟩⟩
        refine opt_ok (x := .tup [net, .tup (sortD ps), .tup (sortD os), at_]) rfl ?_
        refine ⟨rfl, net, sortD ps, sortD os, at_, rfl, h1, fun x hx => hps x (sort_mem.mp hx), fun x hx => hos x (sort_mem.mp hx), ?_, by rw [sort_len]; exact lp, by rw [sort_len]; exact lo, ?_⟩
        · rw [Bool.or_eq_true] at hat
          exact hat
        · exact ⟨rfl, a, 23, ["known"], _, _, rfl, by decide, by decide, by decide, ⟨_, rfl, rest hat⟩⟩
      dsimp only
      refine q_seq (q_if ?_)
      refine q_and (q_tst (isNot_d (i := 4) rfl ?_))
      cases hn : isNon at_ with
      | true =>
        refine ifF rfl (ifF rfl (q_next ?_))
        exact tail (by rw [hn]; rfl)
      | false =>
        refine ifT rfl (q_not (q_tst ⟨rfl, at_, rfl, ka, ?_⟩))
        cases hm : nameD at_ with
        | true =>
          refine ifF rfl (q_next ?_)
          exact tail (by rw [hm, Bool.or_true])
        | false =>
          refine ifT rfl (hE _ ?_)
          rw [due2, hn, hm]
          rfl
end
end QL
set_option Elab.async false
set_option linter.all false
set_option maxRecDepth 100000
set_option maxHeartbeats 4000000
namespace QL
open PySem L2
open PySem.W (Frag)
abbrev s__law_net : Stmt := top 51
abbrev n__law_net : List Str := ["_law_source_here", "_law_step"]
theorem sc__law_net : FnScope n__law_net ["_law_source_here"] (defScope s__law_net) := ⟨rfl, rfl, rfl, by decide +kernel, rfl, by decide +kernel, by decide +kernel⟩
abbrev s__law_known : Stmt := top 52
abbrev n__law_known : List Str := ["_law_source_here", "_law_tags_here", "_law_net_here", "_law_pairs", "_law_tag_here", "_law_ons"]
theorem sc__law_known : FnScope n__law_known ["_law_source_here", "_law_tags_here"] (defScope s__law_known) := ⟨rfl, rfl, rfl, by decide +kernel, rfl, by decide +kernel, by decide +kernel⟩
def psNetD : PSp := fun ss R _ => ∃ (p : Addr) (n : Nat), ss = [.m p (.src n)] ∧ n < 60000 ∧ ∀ (x : D) (n' : Nat), netOk x = true → isNon x = false → n' ≤ n + 2 → R (.d x) [(p, .src n')]
def psKnown : PSp := fun ss R _ => ∃ (p : Addr) (n : Nat) (zs : List Str), ss = [.m p (.src n), .d (.lst (dstr zs))] ∧ n < 50000 ∧ 1 ≤ zs.length ∧ zs.length ≤ 3 ∧ (∀ z ∈ zs, nameS z = true) ∧
  ∀ (net : D) (ps os : List D) (a : D) (q : Addr) (n' : Nat), netOk net = true → (∀ x ∈ ps, pairOk x = true) → (∀ x ∈ os, nameD x = true) → (isNon a = true ∨ nameD a = true) → ps.length ≤ 3 → os.length ≤ 3 → n' ≤ n + 50 → R (.m q (.lst [net, .lst ps, .lst os, a])) [(p, .src n')]
theorem steps_ok : ∀ x ∈ ([.int 1, .int 2, .int 3, .int 4, .int 5, .int 7, .int 10, .int 60] : List D), ∃ m : Nat, x = .int (m : Nat) ∧ 1 ≤ m ∧ m ≤ 60 := by
  intro x hx
  simp only [List.mem_cons, List.not_mem_nil, or_false] at hx
  rcases hx with rfl | rfl | rfl | rfl | rfl | rfl | rfl | rfl
  · exact ⟨1, rfl, by decide, by decide⟩
  · exact ⟨2, rfl, by decide, by decide⟩
  · exact ⟨3, rfl, by decide, by decide⟩
  · exact ⟨4, rfl, by decide, by decide⟩
  · exact ⟨5, rfl, by decide, by decide⟩
  · exact ⟨7, rfl, by decide, by decide⟩
  · exact ⟨10, rfl, by decide, by decide⟩
  · exact ⟨60, rfl, by decide, by decide⟩
theorem fars_ok : ∀ x ∈ ([.int 1, .int 2, .int 3, .int 7, .int (10 ^ (9 : Int).toNat)] : List D), betw x 1 1000000000 = true := by
  intro x hx
  simp only [List.mem_cons, List.not_mem_nil, or_false] at hx
  rcases hx with rfl | rfl | rfl | rfl | rfl <;> decide +kernel
theorem two_eq (d : Nat) : (eqD (.int (d : Nat)) (.int 0) != false) = decide (d = 0) := by
  rw [eqD_int]
  exact decide_eq_decide.mpr (by omega)
section
variable {P : Program} {w : World} {G : Gw} {mg : Str → Option Value} {base : Heap} {k : Nat} {f : Addr} {fd : FuncData} {fP fO fN : Addr} {dP dO dN : FuncData}
theorem p_netD (F : Fun G.W.K "_law_net" "_law_net" s__law_net f fd) (T : Bn mg) (Z__law_pick : DefAt G.W.K mg "_law_pick" sPick fP dP ["_law_source_here", "_law_many"]) (Z__law_one : DefAt G.W.K mg "_law_one" s__law_one fO dO ["_law_source_here", "_law_things"]) :
    FnOk P w G.W.K mg base (L2N.CX P w) (k + 3) f fd ["_law_source_here"] (toSp G 1 psNetD) := by
  have F__law_pick : FnOk P w G.W.K mg base (L2N.CX P w) (k + 2) fP dP ["_law_source_here", "_law_many"] (toSp G 2 psPick) := p_pick Z__law_pick.F T
  have F__law_one : FnOk P w G.W.K mg base (L2N.CX P w) (k + 2) fO dO ["_law_source_here", "_law_things"] (toSp G 2 psOne) := p_one Z__law_one.F T Z__law_pick
  refine fn_pure F sc__law_net (by decide) fun cdv A outer s H E c => ⟨_, _, (dss_cons (ds_set (i := 1) (de_callS c 0 F__law_one Z__law_one.g Z__law_one.F.kp Z__law_one.b (da_cons (de_lst (da_cons de_int (da_cons de_int (da_cons de_int (da_cons de_int (da_cons de_int (da_cons de_int (da_cons de_int (da_cons de_int da_nil))))))))) da_nil)) c.nd)
      (dss_one (ds_ret (de_tup (da_cons (de_var 1) (da_cons (de_callS c 0 F__law_pick Z__law_pick.g Z__law_pick.F.kp Z__law_pick.b (da_cons (de_var 1) da_nil)) da_nil)))))), fun ss R e hsp hl => ?_⟩
  obtain ⟨p, n, rfl, hn, hR⟩ := hsp
  refine ⟨⟨_, rfl⟩, leN rfl, fun q => ⟨rfl, p, n, _, _, rfl, rfl, by decide, by decide, by omega, fun x hx => ⟨_, rfl, ltR rfl, ?_⟩⟩⟩
  obtain ⟨m, rfl, m1, m2⟩ := steps_ok x hx
  refine ⟨⟨_, rfl⟩, rfl, p, m, n + 1, rfl, m1, by omega, by omega, fun d hd => ⟨_, rfl, leN rfl, ?_⟩⟩
  refine hR _ _ ?_ rfl (by omega)
  show ((decide (1 ≤ (m : Int)) && decide ((m : Int) ≤ 60)) && (decide (0 ≤ (d : Int)) && decide ((d : Int) ≤ (m : Int) - 1))) = true
  rw [decide_eq_true (by omega), decide_eq_true (by omega), decide_eq_true (by omega), decide_eq_true (by omega)]
  rfl
theorem p_known (F : Fun G.W.K "_law_known" "_law_known" s__law_known f fd) (T : Bn mg) (Z__law_pick : DefAt G.W.K mg "_law_pick" sPick fP dP ["_law_source_here", "_law_many"]) (Z__law_one : DefAt G.W.K mg "_law_one" s__law_one fO dO ["_law_source_here", "_law_things"]) (Z__law_net : DefAt G.W.K mg "_law_net" s__law_net fN dN ["_law_source_here"]) :
    FnOk P w G.W.K mg base (L2N.CX P w) (k + 4) f fd ["_law_source_here", "_law_tags_here"] (toSp G 2 psKnown) := by
  have F__law_pick : FnOk P w G.W.K mg base (L2N.CX P w) (k + 3) fP dP ["_law_source_here", "_law_many"] (toSp G 2 psPick) := p_pick Z__law_pick.F T
  have F__law_one : FnOk P w G.W.K mg base (L2N.CX P w) (k + 3) fO dO ["_law_source_here", "_law_things"] (toSp G 2 psOne) := p_one Z__law_one.F T Z__law_pick
  have F__law_net : FnOk P w G.W.K mg base (L2N.CX P w) (k + 3) fN dN ["_law_source_here"] (toSp G 1 psNetD) := p_netD Z__law_net.F T Z__law_pick Z__law_one
  refine fn_pure F sc__law_known (by decide) fun cdv A outer s H E c => ⟨_, _, (dss_cons (ds_set (i := 2) (de_ifE (dt_eq c (de_callS c 0 F__law_pick Z__law_pick.g Z__law_pick.F.kp Z__law_pick.b (da_cons de_int da_nil)) de_int) (de_callS c 0 F__law_net Z__law_net.g Z__law_net.F.kp Z__law_net.b da_nil) de_non) c.nd)
      (dss_cons (ds_setLc (i := 3) (own := [("_law_tag_here", 4)]) c (sw_true rfl rfl rfl (by decide +kernel)) (di_seq c (de_var 1)) (blkOk_by (N := n__law_known) (sc := defScope s__law_known) (by decide +kernel)) (fun _ _ _ _ _ => (dg_name 4 c.nd)) (fun _ _ _ _ _ => (dts_one (dt_eq c.blkq (de_callS c.blk 0 F__law_pick Z__law_pick.g Z__law_pick.F.kp Z__law_pick.b (da_cons de_int da_nil)) de_int))) (fun _ _ _ _ _ => (de_tup (da_cons (de_var 4) (da_cons (de_callS c.blk 0 F__law_one Z__law_one.g Z__law_one.F.kp Z__law_one.b (da_cons (de_lst (da_cons de_int (da_cons de_int (da_cons de_int (da_cons de_int (da_cons (de_pow de_int de_int) da_nil)))))) da_nil)) da_nil)))))
      (dss_cons (ds_set (i := 5) (de_ifE (dt_isNot (de_var 2) de_non) (de_lc (own := [("_law_tag_here", 4)]) c (di_seq c (de_var 1)) (blkOk_by (N := n__law_known) (sc := defScope s__law_known) (by decide +kernel)) (fun _ _ _ _ _ => (dg_name 4 c.nd)) (fun _ _ _ _ _ => (dts_one (dt_eq c.blkq (de_callS c.blk 0 F__law_pick Z__law_pick.g Z__law_pick.F.kp Z__law_pick.b (da_cons de_int da_nil)) de_int))) (fun _ _ _ _ _ => (de_var 4))) (de_lst da_nil)) c.nd)
      (dss_one (ds_ret (de_lst (da_cons (de_var 2) (da_cons (de_var 3) (da_cons (de_var 5) (da_cons (de_callS c 0 F__law_one Z__law_one.g Z__law_one.F.kp Z__law_one.b (da_cons (de_add c (de_var 1) (de_lst (da_cons de_non da_nil))) da_nil)) da_nil)))))))))), fun ss R e hsp hl => ?_⟩
  obtain ⟨p, n, zs, rfl, hn, hz1, hz3, hznm, hR⟩ := hsp
  have hzl : (dstr zs).length = zs.length := dstr_len zs
  refine ⟨⟨_, rfl⟩, rfl, p, 2, n, rfl, by decide, by decide, by omega, fun d hd => ⟨_, rfl, okP_int, okP_int, ?_⟩⟩
  -- behind the grid
  have rest : ∀ (net : D) (n1 : Nat), netOk net = true → n1 ≤ n + 3 → ∀ u : RS, (∀ (x : D) (n2 : Nat) (ps : List D) (q : Addr), x = net → n2 ≤ n1 + 2 * 3 → (∀ x ∈ ps, pairOk x = true) → ps.length ≤ 3 → u (defEnds 2 R e) [some (.m p (.src n2)), some (.d (.lst (dstr zs))), some (.d net), some (.m q (.lst ps)), none, none]) →
      sSeq (sSet 3 (rLc [4] (rSeq (rVar 1)) (gN 4) (rTst (rBin (lift2 (gEq false)) (rCallS 2 0 psPick (rCons (rC (.int 2)) rNil)) (rC (.int 0)))) (rTup (rCons (rVar 4) (rCons (rCallS 2 0 psOne (rCons (rLst (rCons (rC (.int 1)) (rCons (rC (.int 2)) (rCons (rC (.int 3)) (rCons (rC (.int 7)) (rCons (rBin (lift2 (gIc CPow fun i j => .int (i ^ j.toNat))) (rC (.int 10)) (rC (.int 9))) rNil)))))) rNil)) rNil))))) u (defEnds 2 R e) [some (.m p (.src n1)), some (.d (.lst (dstr zs))), some (.d net), none, none, none] := by
    intro net n1 hnet hn1 u hu
    refine ⟨by rw [hzl, sizeLine_eq]; omega, fun q => ?_⟩
    refine lcR_ind (fun done acc ρ => acc.length ≤ done.length ∧ (∀ x ∈ acc, pairOk x = true) ∧ ∃ (n2 : Nat) (x4 : Option S), n2 ≤ n1 + 2 * done.length ∧ ρ = [some (.m p (.src n2)), some (.d (.lst (dstr zs))), some (.d net), none, x4, none]) ⟨Nat.le_refl _, fun x hx => (nomatch hx), n1, none, by omega, rfl⟩ ?_ ?_
    · rintro K done x rest acc ρ eds ⟨hal, hap, n2, x4, hn2, rfl⟩ hK
      have hdl : done.length < zs.length := by
        have := congrArg List.length eds
        rw [hzl, List.length_append, List.length_cons] at this
        omega
      obtain ⟨z, rfl, hz⟩ : ∃ z, x = .str z ∧ nameS z = true := by
        have hm : x ∈ dstr zs := by rw [eds]; exact List.mem_append_right _ List.mem_cons_self
        obtain ⟨z, hz, ez⟩ := List.mem_map.mp hm
        exact ⟨z, ez.symm, hznm z hz⟩
      refine ⟨ltR rfl, ⟨⟨_, rfl⟩, rfl, p, 2, n2, rfl, by decide, by decide, by omega, fun d2 hd2 => ⟨_, rfl, okP_int, okP_int, ?_⟩⟩⟩
      rw [two_eq]
      by_cases h0 : d2 = 0
      · refine ifT (decide_eq_true h0) ?_
        refine ⟨⟨_, rfl⟩, ⟨by decide, by decide, by decide⟩, leN rfl, fun q2 => ⟨rfl, p, n2 + 1, _, _, rfl, rfl, by decide, by decide, by omega, fun y hy => ⟨_, rfl, leN rfl, ?_⟩⟩⟩
        refine opt_ok (x := .tup [.str z, y]) rfl (hK _ _ ⟨?_, fun x hx => ?_, n2 + 1 + 1, _, ?_, rfl⟩)
        · rw [List.length_append, List.length_append]
          show acc.length + 1 ≤ done.length + 1
          omega
        · rcases List.mem_append.mp hx with h | h
          · exact hap x h
          · rw [List.mem_singleton.mp h]
            show (nameS z && betw y 1 1000000000) = true
            rw [hz, fars_ok y hy]
            rfl
        · rw [List.length_append, List.length_cons, List.length_nil]; omega
      · refine ifF (decide_eq_false h0) (hK _ _ ⟨?_, hap, n2 + 1, _, ?_, rfl⟩)
        · rw [List.length_append]; omega
        · rw [List.length_append, List.length_cons, List.length_nil]; omega
    · rintro acc ρ ⟨hal, hap, n2, x4, hn2, rfl⟩
      rw [hzl] at hal hn2
      exact ⟨ltR rfl, hu net n2 acc q rfl (by omega) hap (by omega)⟩
  -- the last two
  have last : ∀ (net : D) (n2 : Nat) (ps os : List D) (q q5 : Addr), netOk net = true → (∀ x ∈ ps, pairOk x = true) → (∀ x ∈ os, nameD x = true) → ps.length ≤ 3 → os.length ≤ 3 → n2 ≤ n + 15 →
      sRet (rLst (rCons (rVar 2) (rCons (rVar 3) (rCons (rVar 5) (rCons (rCallS 2 0 psOne (rCons (rBin (lift2 gAdd) (rVar 1) (rLst (rCons (rC .non) rNil))) rNil)) rNil))))) (defEnds 2 R e) [some (.m p (.src n2)), some (.d (.lst (dstr zs))), some (.d net), some (.m q (.lst ps)), none, some (.m q5 (.lst os))] := by
    intro net n2 ps os q q5 h1 h2 h3 l1 l2 hn2
    refine ⟨⟨_, rfl⟩, leN rfl, fun _ => ⟨by rw [hzl, sizeLine_eq]; show zs.length + 1 ≤ _; omega, fun q6 => ⟨rfl, p, n2, .lst (dstr zs ++ [.non]), _, rfl, rfl, ?_, ?_, by omega, fun y hy => ⟨_, rfl, leN rfl, fun q7 => ?_⟩⟩⟩⟩
    · rw [List.length_append, hzl]
      show 1 ≤ zs.length + 1
      omega
    · rw [List.length_append, hzl]
      show zs.length + 1 < 1000
      omega
    refine hR net ps os y q7 _ h1 h2 h3 ?_ l1 l2 (by omega)
    rcases List.mem_append.mp hy with h | h
    · obtain ⟨z, hz, rfl⟩ := List.mem_map.mp h
      exact .inr (hznm z hz)
    · rw [List.mem_singleton.mp h]
      exact .inl rfl
  have mid : ∀ (net : D) (n1 : Nat), netOk net = true → n1 ≤ n + 3 → ∀ (x : D) (n2 : Nat) (ps : List D) (q : Addr), x = net → n2 ≤ n1 + 2 * 3 → (∀ x ∈ ps, pairOk x = true) → ps.length ≤ 3 →
      sSeq (sSet 5 (rIfE (rTst (rBin (lift2 (gIs true)) (rVar 2) (rC .non))) (rLc [4] (rSeq (rVar 1)) (gN 4) (rTst (rBin (lift2 (gEq false)) (rCallS 2 0 psPick (rCons (rC (.int 2)) rNil)) (rC (.int 0)))) (rVar 4)) (rLst rNil))) (sRet (rLst (rCons (rVar 2) (rCons (rVar 3) (rCons (rVar 5) (rCons (rCallS 2 0 psOne (rCons (rBin (lift2 gAdd) (rVar 1) (rLst (rCons (rC .non) rNil))) rNil)) rNil)))))) (defEnds 2 R e) [some (.m p (.src n2)), some (.d (.lst (dstr zs))), some (.d net), some (.m q (.lst ps)), none, none] := by
    intro net n1 hnet hn1 x n2 ps q ex hn2 hps lps
    subst ex
    refine q_seq (q_set (q_ifE (q_tst (isNot_d (i := 2) rfl ?_))))
    cases hnn : isNon x with
    | true =>
      refine ifF rfl ⟨leN rfl, fun q5 => ⟨ltR rfl, ?_⟩⟩
      exact last x n2 ps [] q q5 hnet hps (fun x hx => nomatch hx) lps (by decide) (by omega)
    | false =>
      refine ifT rfl ⟨by rw [hzl, sizeLine_eq]; omega, fun q5 => ?_⟩
      refine lcR_ind (fun done acc ρ => acc.length ≤ done.length ∧ (∀ x ∈ acc, nameD x = true) ∧ ∃ (n3 : Nat) (x4 : Option S), n3 ≤ n2 + done.length ∧ ρ = [some (.m p (.src n3)), some (.d (.lst (dstr zs))), some (.d x), some (.m q (.lst ps)), x4, none]) ⟨Nat.le_refl _, fun x hx => (nomatch hx), n2, none, by omega, rfl⟩ ?_ ?_
      · rintro K done y rest acc ρ eds ⟨hal, hap, n3, x4, hn3, rfl⟩ hK
        have hdl : done.length < zs.length := by
          have := congrArg List.length eds
          rw [hzl, List.length_append, List.length_cons] at this
          omega
        obtain ⟨z, rfl, hz⟩ : ∃ z, y = .str z ∧ nameS z = true := by
          have hm : y ∈ dstr zs := by rw [eds]; exact List.mem_append_right _ List.mem_cons_self
          obtain ⟨z, hz, ez⟩ := List.mem_map.mp hm
          exact ⟨z, ez.symm, hznm z hz⟩
        refine ⟨ltR rfl, ⟨⟨_, rfl⟩, rfl, p, 2, n3, rfl, by decide, by decide, by omega, fun d2 hd2 => ⟨_, rfl, okP_int, okP_int, ?_⟩⟩⟩
        rw [two_eq]
        by_cases h0 : d2 = 0
        · refine ifT (decide_eq_true h0) (hK _ _ ⟨?_, fun x hx => ?_, n3 + 1, _, ?_, rfl⟩)
          · rw [List.length_append, List.length_append]
            show acc.length + 1 ≤ done.length + 1
            omega
          · rcases List.mem_append.mp hx with h | h
            · exact hap x h
            · rw [List.mem_singleton.mp h]
              exact hz
          · rw [List.length_append, List.length_cons, List.length_nil]; omega
        · refine ifF (decide_eq_false h0) (hK _ _ ⟨?_, hap, n3 + 1, _, ?_, rfl⟩)
          · rw [List.length_append]; omega
          · rw [List.length_append, List.length_cons, List.length_nil]; omega
      · rintro acc ρ ⟨hal, hap, n3, x4, hn3, rfl⟩
        rw [hzl] at hal hn3
        exact ⟨ltR rfl, last x n3 ps acc q q5 hnet hps hap lps (by omega) (by omega)⟩
  rw [two_eq]
  by_cases h0 : d = 0
  · refine ifT (decide_eq_true h0) ⟨⟨_, rfl⟩, rfl, p, n + 1, rfl, by omega, fun x n1 hx hxn hn1 => ⟨_, rfl, ltR rfl, ?_⟩⟩
    exact rest x n1 hx (by omega) _ (mid x n1 hx (by omega))
  · refine ifF (decide_eq_false h0) ⟨ltR rfl, ?_⟩
    exact rest .non (n + 1) rfl (by omega) _ (mid .non (n + 1) rfl (by omega))
end
end QL
set_option Elab.async false
set_option linter.all false
set_option maxRecDepth 100000
set_option maxHeartbeats 4000000
namespace QL
open PySem L2
open PySem.W (Frag)
theorem emp (z : Str) : Str.empty ++ z = z := Str.ext' (by rw [Str.cps_append]; exact Array.empty_append)
theorem itLC {i j : Nat} {xs : List D} {x : D} {ρ : Env} {R : S → Env → Prop} {e : XD → Prop} (h : ρ[i]? = some (some (.d (.lst xs)))) (hx : xs[j]? = some x) (k : R (.d x) ρ) : rItemV i (rC (.int (j : Nat))) ρ R e := by
  unfold rItemV rC
  refine ⟨⟨_, h⟩, ?_⟩
  dsimp only
  rw [h]
  exact opt_ok (atI_nat hx) k
theorem isNot_it {i j : Nat} {xs : List D} {x : D} {ρ : Env} {R : S → Env → Prop} {e : XD → Prop} (h : ρ[i]? = some (some (.d (.lst xs)))) (hx : xs[j]? = some x) (k : R (.d (.bl (!isNon x))) ρ) : rBin (lift2 (gIs true)) (rItemV i (rC (.int (j : Nat)))) (rC .non) ρ R e := by
  refine q_bin (itLC h hx ?_)
  cases x <;> exact k
theorem ne_nil (zs : List Str) : (eqD (.lst (dstr zs)) (.lst []) != true) = !zs.isEmpty := by
  cases zs with
  | nil => rfl
  | cons z zs =>
    first
      | rfl
      | simp [eqD, dstr, toP, toPs, PyData.eqv, PyData.eqvAll]
abbrev s__law_known_text : Stmt := top 53
abbrev n__law_known_text : List Str := ["_law_known_here", "_law_found", "_law_tag_here", "_law_far"]
theorem sc__law_known_text : FnScope n__law_known_text ["_law_known_here"] (defScope s__law_known_text) := ⟨rfl, rfl, rfl, by decide +kernel, rfl, by decide +kernel, by decide +kernel⟩
def psKT : PSp := fun ss R _ => ∃ (net : D) (ps os : List D) (a : D), ss = [.d (.lst [net, .lst ps, .lst os, a])] ∧ netOk net = true ∧ (∀ x ∈ ps, pairOk x = true) ∧ (∀ x ∈ os, nameD x = true) ∧ (isNon a = true ∨ nameD a = true) ∧ ps.length ≤ 20 ∧ os.length ≤ 20 ∧ R (.d (.str (textOf net (sortD ps) (sortD os) a))) []
section
variable {P : Program} {w : World} {G : Gw} {mg : Str → Option Value} {base : Heap} {k : Nat} {f : Addr} {fd : FuncData}
theorem p_kt (F : Fun G.W.K "_law_known_text" "_law_known_text" s__law_known_text f fd) (T : Bn mg) :
    FnOk P w G.W.K mg base (L2N.CX P w) (k + 1) f fd ["_law_known_here"] (toSp G 1 psKT) := by
  refine fn_pure F sc__law_known_text (by decide) fun cdv A outer s H E c => ⟨_, _, (dss_cons (ds_set (i := 1) (de_ifE (dt_isNot (de_itemV c 0 de_int) de_non) (de_lst (da_cons (de_add c (de_add c (de_add c de_str (de_strI T (da_cons (de_item c (de_itemV c 0 de_int) de_int) da_nil))) de_str) (de_strI T (da_cons (de_item c (de_itemV c 0 de_int) de_int) da_nil))) da_nil)) (de_lst da_nil)) c.nd)
      (dss_cons (ds_set (i := 1) (de_add c (de_var 1) (de_lc (own := [("_law_tag_here", 2), ("_law_far", 3)]) c (di_seq c (de_sorted c T (da_cons (de_itemV c 0 de_int) da_nil))) (blkOk_by (N := n__law_known_text) (sc := defScope s__law_known_text) (by decide +kernel)) (fun _ _ _ _ _ => (dg_tup (n := 2) c.blk (dgs_cons (dg_name 2 c.blk.nd) (dgs_cons (dg_name 3 c.blk.nd) dgs_nil)))) (fun _ _ _ _ _ => dts_nil) (fun _ _ _ _ _ => (de_add c.blkq (de_add c.blkq (de_add c.blkq de_str (de_var 2)) de_str) (de_strI T (da_cons (de_var 3) da_nil)))))) c.nd)
      (dss_cons (ds_set (i := 1) (de_add c (de_var 1) (de_lc (own := [("_law_tag_here", 2)]) c (di_seq c (de_sorted c T (da_cons (de_itemV c 0 de_int) da_nil))) (blkOk_by (N := n__law_known_text) (sc := defScope s__law_known_text) (by decide +kernel)) (fun _ _ _ _ _ => (dg_name 2 c.nd)) (fun _ _ _ _ _ => dts_nil) (fun _ _ _ _ _ => (de_add c.blkq de_str (de_var 2))))) c.nd)
      (dss_cons (ds_if (dt_isNot (de_itemV c 0 de_int) de_non) (dss_one (ds_expr (de_append c 1 (de_add c de_str (de_itemV c 0 de_int))))) dss_nil)
      (dss_one (ds_ret (de_ifE (dt_ne c (de_var 1) (de_lst da_nil)) (de_join c de_str (de_var 1)) de_str))))))), fun ss R e hsp hl => ?_⟩
  obtain ⟨net, ps, os, a, rfl, h1, h2, h3, h4, lp, lo, hR⟩ := hsp
  obtain ⟨g1, g2, g3, g4, g5, g6, g7⟩ := len_lit
  have h2' : ∀ x ∈ sortD ps, pairOk x = true := fun x hx => h2 x (sort_mem.mp hx)
  have h3' : ∀ x ∈ sortD os, nameD x = true := fun x hx => h3 x (sort_mem.mp hx)
  have l1 : (sortD ps).length ≤ 20 := by rw [sort_len]; exact lp
  have l2 : (sortD os).length ≤ 20 := by rw [sort_len]; exact lo
  obtain ⟨pl, pz⟩ := parts_ok h1 h2' h3' h4 l1 l2
  have hgl : (gridT net).length ≤ 1 := by
    unfold gridT
    split <;> simp
  -- the grid
  have s0 : ∀ (R : S → Env → Prop) (e : XD → Prop), (∀ q, R (.m q (.lst (dstr (gridT net)))) (startR [.d (.lst [net, .lst ps, .lst os, a])] n__law_known_text.length)) → rIfE (rTst (rBin (lift2 (gIs true)) (rItemV 0 (rC (.int 0))) (rC .non))) (rLst (rCons (rBin (lift2 gAdd) (rBin (lift2 gAdd) (rBin (lift2 gAdd) (rC (.str "grid ")) (rCB (lift1 gStrI) (rCons (rBin (lift2 gIx) (rItemV 0 (rC (.int 0))) (rC (.int 0))) rNil))) (rC (.str " "))) (rCB (lift1 gStrI) (rCons (rBin (lift2 gIx) (rItemV 0 (rC (.int 0))) (rC (.int 1))) rNil))) rNil)) (rLst rNil) (startR [.d (.lst [net, .lst ps, .lst os, a])] n__law_known_text.length) R e := by
    intro R e hk
    refine q_ifE (q_tst (isNot_it (i := 0) (j := 0) (x := net) rfl rfl ?_))
    cases hn : isNon net with
    | true =>
      have : net = .non := by cases net <;> first | rfl | cases hn
      subst this
      exact ifF rfl ⟨leN rfl, fun q => hk q⟩
    | false =>
      obtain ⟨i, j, rfl, ⟨i0, i1⟩, j0, j1⟩ := net_to h1 hn
      have a1 := istr_ok i0 (by omega)
      have a2 := istr_ok j0 (by omega)
      have a3 := a1.2
      have a4 := a2.2
      refine ifT rfl ?_
      refine ⟨⟨_, rfl⟩, ⟨⟨a1.1, sl (Nat.le_trans a3 (by decide))⟩, ⟨sl ?_, ⟨sl ?_, ⟨⟨_, rfl⟩, ⟨⟨a2.1, sl (Nat.le_trans a4 (by decide))⟩, ⟨sl ?_, ⟨leN rfl, fun q => ?_⟩⟩⟩⟩⟩⟩⟩⟩
      · show ("grid " : Str).length + (istr i).length ≤ 1000
        omega
      · show (("grid " : Str) ++ istr i).length + (" " : Str).length ≤ 1000
        rw [Str.length_append]
        omega
      · show (("grid " : Str) ++ istr i ++ (" " : Str)).length + (istr j).length ≤ 1000
        rw [Str.length_append, Str.length_append]
        omega
      · have := hk q
        rw [show gridT (.tup [.int i, .int j]) = [Str.empty ++ "grid " ++ istr i ++ " " ++ istr j] from rfl, emp] at this
        exact this
  refine s0 _ _ fun q0 => ⟨ltR rfl, ?_⟩
  refine toE (ρ' := [some (.d (.lst [net, .lst ps, .lst os, a])), some (.m q0 (.lst (dstr (gridT net)))), none, none]) rfl ?_
  dsimp only
  refine q_seq (q_set (q_bin (rv_m (i := 1) rfl rfl ?_)))
  refine ⟨⟨_, rfl⟩, ⟨srt_pairs h2, fun q1 => ⟨by rw [sizeLine_eq]; omega, fun q2 => ?_⟩⟩⟩
  refine lcR_ind (fun done acc ρ => acc = dstr (done.map apT) ∧ ∃ x5 x6, ρ = [some (.d (.lst [net, .lst ps, .lst os, a])), some (.d (.lst (dstr (gridT net)))), x5, x6]) ⟨rfl, none, none, rfl⟩ ?_ ?_
  · rintro K done x rest acc ρ eds ⟨rfl, x5, x6, rfl⟩ hK
    have hx : pairOk x = true := h2' x (by rw [eds]; exact List.mem_append_right _ List.mem_cons_self)
    obtain ⟨z, i, rfl, hz, i0, i1⟩ := pair_to hx
    have a0 := (name_ok hz).2.2
    have a1 := istr_ok i0 i1
    have a3 := a1.2
    refine ⟨rfl, ltR rfl, ltR rfl, ?_⟩
    refine ⟨sl ?_, ⟨sl ?_, ⟨⟨a1.1, sl (Nat.le_trans a3 (by decide))⟩, ⟨sl ?_, ?_⟩⟩⟩⟩
    · omega
    · rw [Str.length_append]
      omega
    · rw [Str.length_append, Str.length_append]
      show _ + (istr i).length ≤ 1000
      omega
    refine opt_ok rfl (hK _ _ ⟨?_, _, _, rfl⟩)
    rw [List.map_append, dstr_app]
    congr 1
  · rintro acc ρ ⟨rfl, x5, x6, rfl⟩
    refine ⟨by rw [dstr_len, dstr_len, List.length_map, sizeLine_eq]; omega, fun q2 => ⟨ltR rfl, ?_⟩⟩
    dsimp only
    refine q_seq (q_set (q_bin (rv_m (i := 1) rfl rfl ?_)))
    refine ⟨⟨_, rfl⟩, ⟨srt_names h3, fun q1 => ⟨by rw [sizeLine_eq]; omega, fun q3 => ?_⟩⟩⟩
    rw [← dstr_app]
    refine lcR_ind (fun done acc ρ => acc = dstr (done.map onT) ∧ ∃ x5 x6, ρ = [some (.d (.lst [net, .lst ps, .lst os, a])), some (.d (.lst (dstr (gridT net ++ (sortD ps).map apT)))), x5, x6]) ⟨rfl, _, _, rfl⟩ ?_ ?_
    · rintro K done x rest acc ρ eds ⟨rfl, x5, x6, rfl⟩ hK
      have hx : nameD x = true := h3' x (by rw [eds]; exact List.mem_append_right _ List.mem_cons_self)
      obtain ⟨z, rfl, hz⟩ := name_str hx
      have := (name_ok hz).2.2
      refine ⟨ltR rfl, ⟨sl (by omega), ?_⟩⟩
      refine opt_ok rfl (hK _ _ ⟨?_, _, _, rfl⟩)
      rw [List.map_append, dstr_app]
      congr 1
    · rintro acc ρ ⟨rfl, x5, x6, rfl⟩
      refine ⟨by rw [dstr_len, dstr_len, List.length_append, List.length_map, List.length_map, sizeLine_eq]; omega, fun q4 => ⟨ltR rfl, ?_⟩⟩
      rw [← dstr_app]
      have fin : ∀ zs : List Str, zs = partsT net (sortD ps) (sortD os) a → ∀ x5 x6 : Option S, rIfE (rTst (rBin (lift2 (gEq true)) (rVar 1) (rLst rNil))) (rJoin (rC (.str "; ")) (rVar 1)) (rC (.str "any")) [some (.d (.lst [net, .lst ps, .lst os, a])), some (.m q4 (.lst (dstr zs))), x5, x6] (defEnds 1 R e).rt e := by
        intro zs hzs x5 x6
        have hR : R (.d (.str (if zs.isEmpty = true then "any" else Txt.join "; " zs))) [] := by
          rw [hzs]
          exact hR
        refine q_ifE (q_tst (q_bin (rv_m (i := 1) rfl rfl ⟨leN rfl, fun q => ⟨okP_strs zs, ?_, ?_⟩⟩)))
        · exact okP_strs []
        rw [ne_nil]
        cases hpe : zs.isEmpty with
        | true =>
          rw [hpe] at hR
          exact ifF rfl hR
        | false =>
          rw [hpe] at hR
          refine ifT rfl ?_
          refine opt_ok (strs_dstr zs) ⟨?_, hR⟩
          have s1 := sum_le (zs := zs) (n := 40) (by rw [hzs]; exact pz)
          rw [← hzs] at pl
          rw [g7]
          have : zs.length * 40 ≤ 42 * 40 := Nat.mul_le_mul_right _ pl
          omega
      dsimp only
      refine q_seq (q_if (q_tst (isNot_it (i := 0) (j := 3) (x := a) rfl rfl ?_)))
      cases hn : isNon a with
      | true =>
        have : a = .non := by cases a <;> first | rfl | cases hn
        subst this
        refine ifF rfl (q_next ?_)
        exact fin _ (by unfold partsT; rw [show atT .non = [] from rfl, List.append_nil]) _ _
      | false =>
        obtain ⟨z, rfl, hz⟩ := name_str (h4.resolve_left (by rw [hn]; simp))
        have := (name_ok hz).2.2
        refine ifT rfl ⟨⟨_, _, rfl⟩, ⟨⟨_, rfl⟩, ⟨sl (by omega), ?_⟩⟩⟩
        refine ⟨by rw [dstr_len, List.length_append, List.length_append, List.length_map, List.length_map, sizeLine_eq]; omega, ?_⟩
        have zf := fin (gridT net ++ (sortD ps).map apT ++ (sortD os).map onT ++ atT (.str z)) rfl x5 x6
        rw [dstr_app (gridT net ++ (sortD ps).map apT ++ (sortD os).map onT), show atT (.str z) = [Str.empty ++ "at " ++ z] from rfl, emp] at zf
        exact zf
end
end QL
set_option Elab.async false
set_option linter.all false
set_option maxRecDepth 100000
set_option maxHeartbeats 4000000
namespace QL
open PySem L2
open PySem.W (Frag)
theorem cut_mem {xs : List D} {lo hi : Option Int} {y : D} (h : y ∈ cutD xs lo hi) : y ∈ xs := List.mem_of_mem_drop (List.mem_of_mem_take h)
theorem cut_len {xs : List D} {lo hi : Option Int} : (cutD xs lo hi).length ≤ xs.length := by
  unfold cutD
  rw [List.length_take, List.length_drop]
  omega
theorem kn2_tup {xs : List D} (h1 : xs.length ≤ 20) (h2 : ∀ y ∈ xs, known y) : kn2 (.tup xs) := ⟨rfl, fun ys e => by
  injection e with e
  subst e
  exact ⟨h1, h2⟩⟩
abbrev s__law_bent : Stmt := top 58
abbrev n__law_bent : List Str := ["_law_source_here", "_law_things", "_law_odd", "_law_way", "_law_at"]
theorem sc__law_bent : FnScope n__law_bent ["_law_source_here", "_law_things", "_law_odd"] (defScope s__law_bent) := ⟨rfl, rfl, rfl, by decide +kernel, rfl, by decide +kernel, by decide +kernel⟩
def psBent : PSp := fun ss R _ => ∃ (p : Addr) (n : Nat) (xs os : List D), ss = [.m p (.src n), .d (.lst xs), .d (.lst os)] ∧ n < 60000 ∧ xs.length ≤ 3 ∧ 1 ≤ os.length ∧ os.length < 100 ∧ (∀ x ∈ xs, known x) ∧ (∀ x ∈ os, known x) ∧ ∀ (x : D) (n' : Nat), kn2 x → n' ≤ n + 3 → R (.d x) [(p, .src n')]
section
variable {P : Program} {w : World} {G : Gw} {mg : Str → Option Value} {base : Heap} {k : Nat} {f : Addr} {fd : FuncData} {fP fO : Addr} {dP dO : FuncData}
theorem p_bent (F : Fun G.W.K "_law_bent" "_law_bent" s__law_bent f fd) (T : Bn mg) (Z__law_pick : DefAt G.W.K mg "_law_pick" sPick fP dP ["_law_source_here", "_law_many"]) (Z__law_one : DefAt G.W.K mg "_law_one" s__law_one fO dO ["_law_source_here", "_law_things"]) :
    FnOk P w G.W.K mg base (L2N.CX P w) (k + 3) f fd ["_law_source_here", "_law_things", "_law_odd"] (toSp G 3 psBent) := by
  have F__law_pick : FnOk P w G.W.K mg base (L2N.CX P w) (k + 2) fP dP ["_law_source_here", "_law_many"] (toSp G 2 psPick) := p_pick Z__law_pick.F T
  have F__law_one : FnOk P w G.W.K mg base (L2N.CX P w) (k + 2) fO dO ["_law_source_here", "_law_things"] (toSp G 2 psOne) := p_one Z__law_one.F T Z__law_pick
  refine fn_pure F sc__law_bent (by decide) fun cdv A outer s H E c => ⟨_, _, (dss_cons (ds_par (i := 3) (j := 4) c (da_cons (de_callS c 0 F__law_pick Z__law_pick.g Z__law_pick.F.kp Z__law_pick.b (da_cons de_int da_nil)) (da_cons (de_callS c 0 F__law_pick Z__law_pick.g Z__law_pick.F.kp Z__law_pick.b (da_cons (de_add c (de_lenV c T 1) de_int) da_nil)) da_nil)))
      (dss_cons (ds_if (dt_eq c (de_var 3) de_int) (dss_one (ds_ret (de_callS c 0 F__law_one Z__law_one.g Z__law_one.F.kp Z__law_one.b (da_cons (de_lst (da_cons (de_list c T (da_cons (de_var 1) da_nil)) (da_cons de_non (da_cons de_dnewK (da_cons de_int (da_cons de_str da_nil)))))) da_nil)))) dss_nil)
      (dss_cons (ds_if (dt_eq c (de_var 3) de_int) (dss_one (ds_ret (de_tuple c T (da_cons (de_add c (de_add c (de_cut c (de_var 1) do_none (do_some (de_var 4))) (de_lst (da_cons (de_callS c 0 F__law_one Z__law_one.g Z__law_one.F.kp Z__law_one.b (da_cons (de_var 2) da_nil)) da_nil))) (de_cut c (de_var 1) (do_some (de_var 4)) do_none)) da_nil)))) dss_nil)
      (dss_one (ds_ret (de_ifE (dt_eq c (de_var 3) de_int) (de_tuple c T (da_cons (de_add c (de_add c (de_cut c (de_var 1) do_none (do_some (de_var 4))) (de_cut c (de_var 1) do_none (do_some de_int))) (de_cut c (de_var 1) (do_some (de_var 4)) do_none)) da_nil)) (de_tuple c T (da_cons (de_var 1) da_nil)))))))), fun ss R e hsp hl => ?_⟩
  obtain ⟨p, n, xs, os, rfl, hn, hx3, ho1, ho2, hxk, hok, hR⟩ := hsp
  refine ⟨⟨_, rfl⟩, rfl, p, 6, n, rfl, by decide, by decide, by omega, fun d hd => ⟨_, rfl, ?_⟩⟩
  refine ⟨⟨_, rfl⟩, rfl, p, xs.length + 1, n + 1, rfl, by omega, by omega, by omega, fun t ht => ⟨_, rfl, ⟨ltR rfl, ltR rfl⟩, ?_⟩⟩
  refine toE (ρ' := [some (.m p (.src (n + 1 + 1))), some (.d (.lst xs)), some (.d (.lst os)), some (.d (.int (d : Nat))), some (.d (.int (t : Nat)))]) rfl ?_
  have z1 : ∀ lo hi, (cutD xs lo hi).length ≤ 3 := fun lo hi => Nat.le_trans cut_len hx3
  refine ⟨okP_int, okP_int, ?_⟩
  by_cases d0 : d = 0
  · subst d0
    refine ifT (by rw [eqD_int]; rfl) ?_
    refine ⟨⟨_, rfl⟩, fun q1 => fun q2 => ⟨leN rfl, fun q3 => ⟨rfl, p, n + 1 + 1, _, [.lst xs, .non, .dk [] [], .int 0, .str "ab"], rfl, rfl, Nat.le_of_ble_eq_true rfl, Nat.le_of_ble_eq_true rfl, by omega, fun x hx => ⟨_, rfl, hR _ _ ?_ (by omega)⟩⟩⟩⟩
    simp only [List.mem_cons, List.not_mem_nil, or_false] at hx
    rcases hx with rfl | rfl | rfl | rfl | rfl <;> exact ⟨rfl, fun ys e => by cases e⟩
  · refine ifF (by rw [eqD_int]; exact decide_eq_false (by omega)) ?_
    refine ⟨okP_int, okP_int, ?_⟩
    by_cases d1 : d = 1
    · subst d1
      refine ifT (by rw [eqD_int]; rfl) ?_
      refine fun q1 => ⟨⟨_, rfl⟩, rfl, p, n + 1 + 1, _, os, rfl, rfl, ho1, by omega, by omega, fun x hx => ⟨_, rfl, leN rfl, fun q2 => ⟨?_, fun q3 q4 => ⟨?_, fun q5 => hR _ _ (kn2_tup ?_ fun y hy => ?_) (by omega)⟩⟩⟩⟩
      · have := z1 none (some ((t : Nat) : Int))
        rw [sizeLine_eq]
        show _ + 1 ≤ _
        omega
      · have := z1 none (some ((t : Nat) : Int))
        have := z1 (some ((t : Nat) : Int)) none
        rw [sizeLine_eq, List.length_append]
        show _ + 1 + _ ≤ _
        omega
      · have := z1 none (some ((t : Nat) : Int))
        have := z1 (some ((t : Nat) : Int)) none
        rw [List.length_append, List.length_append]
        show _ + 1 + _ ≤ _
        omega
      · rcases List.mem_append.mp hy with h | h
        · rcases List.mem_append.mp h with h | h
          · exact hxk y (cut_mem h)
          · rw [List.mem_singleton.mp h]
            exact hok x hx
        · exact hxk y (cut_mem h)
    · refine ifF (by rw [eqD_int]; exact decide_eq_false (by omega)) ?_
      refine ⟨okP_int, okP_int, ?_⟩
      by_cases d2 : d = 2
      · subst d2
        refine ifT (by rw [eqD_int]; rfl) ?_
        refine fun q1 q2 => ⟨?_, fun q3 q4 => ⟨?_, fun q5 => hR _ _ (kn2_tup ?_ fun y hy => ?_) (by omega)⟩⟩
        · have := z1 none (some ((t : Nat) : Int))
          have := z1 none (some 1)
          rw [sizeLine_eq]
          omega
        · have := z1 none (some ((t : Nat) : Int))
          have := z1 none (some 1)
          have := z1 (some ((t : Nat) : Int)) none
          rw [sizeLine_eq, List.length_append]
          omega
        · have := z1 none (some ((t : Nat) : Int))
          have := z1 none (some 1)
          have := z1 (some ((t : Nat) : Int)) none
          rw [List.length_append, List.length_append]
          omega
        · rcases List.mem_append.mp hy with h | h
          · rcases List.mem_append.mp h with h | h
            · exact hxk y (cut_mem h)
            · exact hxk y (cut_mem h)
          · exact hxk y (cut_mem h)
      · refine ifF (by rw [eqD_int]; exact decide_eq_false (by omega)) ?_
        exact hR _ _ (kn2_tup (by omega) hxk) (by omega)
end
end QL
set_option Elab.async false
set_option linter.all false
set_option maxRecDepth 100000
set_option maxHeartbeats 4000000
namespace QL
open PySem L2
open PySem.W (Frag)
theorem itTV {i j n : Nat} {xs : List D} {x : D} {ρ : Env} {R : S → Env → Prop} {e : XD → Prop} (h : ρ[i]? = some (some (.d (.tup xs)))) (hj : ρ[j]? = some (some (.d (.int (n : Nat))))) (hx : xs[n]? = some x) (k : R (.d x) ρ) : rItemV i (rVar j) ρ R e := by
  unfold rItemV rVar
  refine ⟨⟨_, h⟩, ?_⟩
  rw [hj]
  dsimp only
  rw [h]
  exact opt_ok (atI_nat hx) k
theorem neT_nil {zs : List D} (hz : plDs zs = true) : (eqD (.tup zs) (.tup []) != true) = !zs.isEmpty := by
  cases zs with
  | nil => rfl
  | cons z zs =>
    first
      | rfl
      | simp [eqD, toP, toPs, PyData.eqv, PyData.eqvAll]
abbrev s__law_due : Stmt := top 61
abbrev n__law_due : List Str := ["_law_net_here", "_law_pairs", "_law_ons", "_law_at", "_law_k", "_law_pair"]
theorem sc__law_due : FnScope n__law_due ["_law_net_here", "_law_pairs", "_law_ons", "_law_at"] (defScope s__law_due) := ⟨rfl, rfl, rfl, by decide +kernel, rfl, by decide +kernel, by decide +kernel⟩
/-- the repr of a value -/
def Rp (g : Bool) (x : D) (z : Str) : Prop := ∀ R : S → Prop, R (.d (.str z)) → gRepr g [x] R
theorem rp_non {g : Bool} {z : Str} (h : Rp g .non z) : z = "None" := by
  have := h (fun s => s = .d (.str z)) rfl
  have e : S.d (.str "None") = S.d (.str z) := this
  injection e with e
  injection e with e
  exact e.symm
def psDue : PSp := fun ss R _ => ∃ (net pairs ons a : D), ss = [.d net, .d pairs, .d ons, .d a] ∧ kn2 net ∧ kn2 pairs ∧ kn2 ons ∧ knD a = true ∧ (setDue net pairs ons a = none → R (.d .non) []) ∧
  ∀ x, setDue net pairs ons a = some x → ∃ z, Rp true x.2 z ∧ ∀ q, R (.m q (.lst [.str (wdn x.1), .str z])) []
section
variable {P : Program} {w : World} {G : Gw} {mg : Str → Option Value} {base : Heap} {k : Nat} {f : Addr} {fd : FuncData} {fN fI fE fA : Addr} {dN dI dE dA : FuncData}
theorem p_due (F : Fun G.W.K "_law_due" "_law_due" s__law_due f fd) (T : Bn mg) (IK : IsiK G) (Z__law_is_tag : DefAt G.W.K mg "_law_is_tag" s__law_is_tag fN dN ["_law_thing"]) (Z__law_is_whole : DefAt G.W.K mg "_law_is_whole" s__law_is_whole fI dI ["_law_thing"]) (Z__law_is_net : DefAt G.W.K mg "_law_is_net" s__law_is_net fE dE ["_law_thing"]) (Z__law_is_pair : DefAt G.W.K mg "_law_is_pair" s__law_is_pair fA dA ["_law_thing"]) :
    FnOkG P w G.W.K mg base (L2N.CX P w) (k + 3) f fd ["_law_net_here", "_law_pairs", "_law_ons", "_law_at"] (toSp G 4 psDue) := by
  have I_tuple := IK.tup
  have F__law_is_net : FnOk P w G.W.K mg base (L2N.CX P w) (k + 2) fE dE ["_law_thing"] (toSp G 1 psNet) := p_net Z__law_is_net.F T IK Z__law_is_whole
  have F__law_is_pair : FnOk P w G.W.K mg base (L2N.CX P w) (k + 2) fA dA ["_law_thing"] (toSp G 1 psPair) := p_pair Z__law_is_pair.F T IK Z__law_is_whole Z__law_is_tag
  have F__law_is_tag : FnOk P w G.W.K mg base (L2N.CX P w) (k + 2) fN dN ["_law_thing"] (toSp G 1 psName) := p_istag Z__law_is_tag.F T IK
  refine fn_pureG F sc__law_due (by decide) fun cdv A outer s H E c => ⟨_, _, (dss_cons (ds_if (dt_not (dt_val (de_call c F__law_is_net Z__law_is_net.g Z__law_is_net.F.kp Z__law_is_net.b (da_cons (de_var 0) da_nil)))) (dss_one (ds_ret (de_lst (da_cons de_str (da_cons (de_repr c T (da_cons (de_var 0) da_nil)) da_nil))))) dss_nil)
      (dss_cons (ds_if (dt_not (dt_val (de_isB c T (de_var 1) T.tup (by decide +kernel) I_tuple))) (dss_one (ds_ret (de_lst (da_cons de_str (da_cons de_str da_nil))))) dss_nil)
      (dss_cons (ds_for c (di_range T.ran (da_cons (de_lenV c T 1) da_nil)) (dg_name 4 c.nd) (dss_one (ds_if (dt_of (dw_or (dt_not (dt_val (de_call c F__law_is_pair Z__law_is_pair.g Z__law_is_pair.F.kp Z__law_is_pair.b (da_cons (de_itemV c 1 (de_var 4)) da_nil)))) (dw_or1 (dt_in c (de_item c (de_itemV c 1 (de_var 4)) de_int) (de_lc (own := [("_law_pair", 5)]) c (di_seq c (de_cut c (de_var 1) do_none (do_some (de_var 4)))) (blkOk_by (N := n__law_due) (sc := defScope s__law_due) (by decide +kernel)) (fun _ _ _ _ _ => (dg_name 5 c.nd)) (fun _ _ _ _ _ => dts_nil) (fun _ _ _ _ _ => (de_itemV c.blkq 5 de_int))))))) (dss_one (ds_ret (de_lst (da_cons de_str (da_cons (de_repr c T (da_cons (de_var 4) da_nil)) da_nil))))) dss_nil)))
      (dss_cons (ds_if (dt_not (dt_val (de_isB c T (de_var 2) T.tup (by decide +kernel) I_tuple))) (dss_one (ds_ret (de_lst (da_cons de_str (da_cons de_str da_nil))))) dss_nil)
      (dss_cons (ds_for c (di_range T.ran (da_cons (de_lenV c T 2) da_nil)) (dg_name 4 c.nd) (dss_one (ds_if (dt_of (dw_or (dt_not (dt_val (de_call c F__law_is_tag Z__law_is_tag.g Z__law_is_tag.F.kp Z__law_is_tag.b (da_cons (de_itemV c 2 (de_var 4)) da_nil)))) (dw_or1 (dt_in c (de_itemV c 2 (de_var 4)) (de_cut c (de_var 2) do_none (do_some (de_var 4))))))) (dss_one (ds_ret (de_lst (da_cons de_str (da_cons (de_repr c T (da_cons (de_var 4) da_nil)) da_nil))))) dss_nil)))
      (dss_cons (ds_if (dt_of (dw_and (dt_ne c (de_var 2) (de_tup da_nil)) (dw_and1 (dt_is (de_var 0) de_non)))) (dss_one (ds_ret (de_lst (da_cons de_str (da_cons de_str da_nil))))) dss_nil)
      (dss_one (ds_ret (de_ifE (dt_of (dw_or (dt_is (de_var 3) de_non) (dw_or1 (dt_val (de_call c F__law_is_tag Z__law_is_tag.g Z__law_is_tag.F.kp Z__law_is_tag.b (da_cons (de_var 3) da_nil)))))) de_non (de_lst (da_cons de_str (da_cons (de_repr c T (da_cons (de_var 3) da_nil)) da_nil)))))))))))), fun ss R e hsp hl => ?_⟩
  obtain ⟨net, pairs, ons, a, rfl, kn, kp, ko, ka, hN, hS⟩ := hsp
  -- an error told
  have tell : ∀ (i : Nat) (x : XD) (x4 x5 : Option S), setDue net pairs ons a = some x → [some (.d net), some (.d pairs), some (.d ons), some (.d a), x4, x5][i]? = some (some (S.d x.2)) → rLst (rCons (rC (.str (wdn x.1))) (rCons (rCB (lift1 (gRepr true)) (rCons (rVar i) rNil)) rNil)) [some (.d net), some (.d pairs), some (.d ons), some (.d a), x4, x5] (defEnds 4 R e).rt (defEnds 4 R e).ex := by
    intro i x x4 x5 hx hi
    obtain ⟨z, hz, hq⟩ := hS x hx
    unfold rLst
    refine q_cons (q_c (q_cons (q_cb1 (rv_d hi ?_))))
    exact hz _ ⟨leN rfl, fun q => hq q⟩
  have tellN : ∀ (n : Nat) (x4 x5 : Option S), setDue net pairs ons a = some (n, .non) → rLst (rCons (rC (.str (wdn n))) (rCons (rC (.str "None")) rNil)) [some (.d net), some (.d pairs), some (.d ons), some (.d a), x4, x5] (defEnds 4 R e).rt (defEnds 4 R e).ex := by
    intro n x4 x5 hx
    obtain ⟨z, hz, hq⟩ := hS _ hx
    rw [rp_non hz] at hq
    exact ⟨leN rfl, fun q => hq q⟩
  refine q_seq (q_if (q_not (q_tst (q_call1 (rv_d (i := 0) rfl ⟨rfl, net, rfl, kn.1, fun xs ex y hy => ((kn.2 xs ex).2 y hy).1, ?_⟩)))))
  cases h1 : netOk net with
  | false => exact ifT rfl (tell 0 (6, net) _ _ (by unfold setDue; rw [if_pos h1]) rfl)
  | true =>
    have n1 : ¬ netOk net = false := by rw [h1]; simp
    refine ifF rfl (q_next ?_)
    dsimp only
    refine q_seq (q_if (q_not (q_tst (isi_ok (isi_T kp.1) ?_))))
    cases ht : isT "tuple" pairs with
    | false =>
      refine ifT rfl (tellN 14 _ _ ?_)
      unfold setDue
      rw [if_neg n1]
      cases pairs with
      | tup _ => cases ht
      | _ => rfl
    | true =>
      refine ifF rfl (q_next ?_)
      obtain ⟨ps, rfl⟩ := isTup ht
      obtain ⟨lp, kps⟩ := kp.2 ps rfl
      dsimp only
      refine q_seq ?_
      refine ⟨⟨by omega, by omega⟩, ?_⟩
      refine loopR_ind (fun done ρ => ∃ (x4 x5 : Option S), (∀ m, m < done.length → ∀ z, ps[m]? = some z → badP ((ps.take m).map fstK) z = false) ∧ ρ = [some (.d net), some (.d (.tup ps)), some (.d ons), some (.d a), x4, x5]) ⟨none, none, fun m hm => absurd hm (Nat.not_lt_zero _), rfl⟩ ?_ ?_
      · rintro K done x rest ρ eds ⟨x4, x5, hgood, rfl⟩ hK
        obtain ⟨rfl, hlt⟩ := intsD_at eds
        have hnl : done.length < ps.length := by omega
        obtain ⟨y, hy⟩ : ∃ y, ps[done.length]? = some y := ⟨_, List.getElem?_eq_getElem hnl⟩
        have hyk := kps y (List.mem_of_getElem? hy)
        have err : badP ((ps.take done.length).map fstK) y = true → setDue net (.tup ps) ons a = some (14, .int (done.length : Nat)) := fun hb => by
          have hs : scanP ps = some done.length := scanG_hit hy hgood hb
          unfold setDue
          rw [if_neg n1]
          dsimp only
          rw [hs]
        refine ⟨ltR rfl, ?_⟩
        refine q_if (q_or (q_not (q_tst (q_call1 (itTV (i := 1) (j := 4) rfl rfl hy ⟨rfl, y, rfl, hyk, ?_⟩)))))
        cases hro : pairOk y with
        | false => exact ifT rfl (tell 4 (14, .int (done.length : Nat)) _ _ (err (bad_of hro)) rfl)
        | true =>
          obtain ⟨z, i, rfl, hz, i0, i1⟩ := pair_to hro
          have hall : ∀ x ∈ ps.take done.length, pairOk x = true := fun x hx => by
            obtain ⟨m, hm⟩ := List.getElem?_of_mem hx
            rw [List.getElem?_take] at hm
            split at hm
            · rename_i hlt2
              have := hgood m hlt2 x hm
              cases hp : pairOk x with
              | true => rfl
              | false => rw [bad_of hp] at this; cases this
            · cases hm
          refine ifF rfl (q_tst (q_bin (q_bin (itTV (i := 1) (j := 4) rfl rfl hy ?_))))
          refine q_c (opt_ok rfl ?_)
          refine ⟨cut_ok hnl, ?_⟩
          rw [cutD_take (by omega)]
          refine ⟨?_, fun p2 => ?_⟩
          · rw [List.length_take, sizeLine_eq]
            omega
          refine lcR_ind (fun dn acc ρ => acc = dstr (dn.map fstK) ∧ ∃ x5, ρ = [some (.d net), some (.d (.tup ps)), some (.d ons), some (.d a), some (.d (.int (done.length : Nat))), x5]) ⟨rfl, _, rfl⟩ ?_ ?_
          · rintro K2 dn x rest2 acc ρ eds2 ⟨rfl, y5, rfl⟩ hK2
            have hx := hall x (by rw [eds2]; exact List.mem_append_right _ List.mem_cons_self)
            obtain ⟨z2, i2, rfl, _⟩ := pair_to hx
            refine ⟨ltR rfl, ⟨⟨_, rfl⟩, opt_ok rfl (opt_ok rfl (hK2 _ _ ⟨?_, _, rfl⟩))⟩⟩
            rw [List.map_append, dstr_app]
            rfl
          · rintro acc ρ ⟨rfl, y5, rfl⟩
            refine ⟨okP_str, okP_strs _, ?_⟩
            show if (((dstr ((ps.take done.length).map fstK)).any fun w => eqD w (.str z)) != false) = true then _ else _
            rw [any_strs, bneF]
            by_cases hz2 : z ∈ (ps.take done.length).map fstK
            · exact ifT (decide_eq_true hz2) (tell 4 (14, .int (done.length : Nat)) _ _ (err (bad_in hz2)) rfl)
            · refine ifF (decide_eq_false hz2) (hK _ ⟨_, _, fun m hm2 z2 hz3 => ?_, rfl⟩)
              rw [List.length_append, List.length_cons, List.length_nil] at hm2
              by_cases hlt3 : m < done.length
              · exact hgood m hlt3 z2 hz3
              · have : m = done.length := by omega
                subst this
                rw [hy] at hz3
                cases hz3
                exact bad_no hro hz2
      · rintro ρ ⟨x4, x5, hgood, rfl⟩
        have hsp : scanP ps = none := scanG_all fun m hm => hgood m (by rw [intsD_len]; omega)
        dsimp only
        refine q_seq (q_if (q_not (q_tst (isi_ok (isi_T ko.1) ?_))))
        cases ht2 : isT "tuple" ons with
        | false =>
          refine ifT rfl (tellN 15 _ _ ?_)
          unfold setDue
          rw [if_neg n1]
          dsimp only
          rw [hsp]
          cases ons with
          | tup _ => cases ht2
          | _ => rfl
        | true =>
          refine ifF rfl (q_next ?_)
          obtain ⟨os, rfl⟩ := isTup ht2
          obtain ⟨lo, kos⟩ := ko.2 os rfl
          have due : ∀ r, scanF os = r → setDue net (.tup ps) (.tup os) a = match r with
              | some i => some (15, .int (i : Nat))
              | none => if !os.isEmpty && isNon net then some (15, .non) else if isNon a || nameD a then none else some (0, a) := fun r hr => by
            unfold setDue
            rw [if_neg n1]
            dsimp only
            rw [hsp]
            dsimp only
            rw [hr]
            all_goals (cases r <;> rfl)
          dsimp only
          refine q_seq ?_
          refine ⟨⟨by omega, by omega⟩, ?_⟩
          refine loopR_ind (fun done ρ => ∃ (x4 x5 : Option S), (∀ m, m < done.length → ∀ z, os[m]? = some z → badF ((os.take m).map nmK) z = false) ∧ ρ = [some (.d net), some (.d (.tup ps)), some (.d (.tup os)), some (.d a), x4, x5]) ⟨_, _, fun m hm => absurd hm (Nat.not_lt_zero _), rfl⟩ ?_ ?_
          · rintro K done x rest ρ eds ⟨x4, x5, hgood, rfl⟩ hK
            obtain ⟨rfl, hlt⟩ := intsD_at eds
            have hnl : done.length < os.length := by omega
            obtain ⟨y, hy⟩ : ∃ y, os[done.length]? = some y := ⟨_, List.getElem?_eq_getElem hnl⟩
            have hyk := kos y (List.mem_of_getElem? hy)
            have err : badF ((os.take done.length).map nmK) y = true → setDue net (.tup ps) (.tup os) a = some (15, .int (done.length : Nat)) := fun hb => due _ (scanG_hit hy hgood hb)
            refine ⟨ltR rfl, ?_⟩
            refine q_if (q_or (q_not (q_tst (q_call1 (itTV (i := 2) (j := 4) rfl rfl hy ⟨rfl, y, rfl, hyk.1, ?_⟩)))))
            cases hro : nameD y with
            | false => exact ifT rfl (tell 4 (15, .int (done.length : Nat)) _ _ (err (by unfold badF; rw [hro]; rfl)) rfl)
            | true =>
              obtain ⟨z, rfl, hz⟩ := name_str hro
              have hall : ∀ x ∈ os.take done.length, nameD x = true := fun x hx => by
                obtain ⟨m, hm⟩ := List.getElem?_of_mem hx
                rw [List.getElem?_take] at hm
                split at hm
                · rename_i hlt2
                  exact (badF_nm (hgood m hlt2 x hm)).1
                · cases hm
              have hnm := names_of hall
              refine ifF rfl (q_tst (q_bin (itTV (i := 2) (j := 4) rfl rfl hy (q_cut (rv_d (i := 2) rfl ⟨cut_ok hnl, ?_⟩)))))
              rw [cutD_take (by omega)]
              generalize hzs : (os.take done.length).map nmK = zs at hnm err
              rw [hnm]
              refine ⟨okP_str, okP_strT zs, ?_⟩
              show if (((dstr zs).any fun w => eqD w (.str z)) != false) = true then _ else _
              rw [any_strs, bneF]
              by_cases hz2 : z ∈ zs
              · exact ifT (decide_eq_true hz2) (tell 4 (15, .int (done.length : Nat)) _ _ (err (by unfold badF; rw [show decide (nmK (.str z) ∈ zs) = true from decide_eq_true hz2, Bool.or_true])) rfl)
              · refine ifF (decide_eq_false hz2) (hK _ ⟨_, _, fun m hm z2 hz3 => ?_, rfl⟩)
                rw [List.length_append, List.length_cons, List.length_nil] at hm
                by_cases hlt3 : m < done.length
                · exact hgood m hlt3 z2 hz3
                · have : m = done.length := by omega
                  subst this
                  rw [hy] at hz3
                  cases hz3
                  unfold badF
                  rw [hzs, hro, show decide (nmK (.str z) ∈ zs) = false from decide_eq_false hz2]
                  rfl
          · rintro ρ ⟨x4, x5, hgood, rfl⟩
            have hso : scanF os = none := scanG_all fun m hm => hgood m (by rw [intsD_len]; omega)
            have hnm := names_of (scanF_ok hso)
            have d2 := due _ hso
            dsimp only at d2
            have okO : okP (.tup os) := by rw [hnm]; exact okP_strT _
            have last : (!os.isEmpty && isNon net) = false → rIfE (rOr (rTst (rBin (lift2 (gIs false)) (rVar 3) (rC .non))) (rTst (rCall 1 psName (rCons (rVar 3) rNil)))) (rC .non) (rLst (rCons (rC (.str "name")) (rCons (rCB (lift1 (gRepr true)) (rCons (rVar 3) rNil)) rNil))) [some (.d net), some (.d (.tup ps)), some (.d (.tup os)), some (.d a), x4, x5] (defEnds 4 R e).rt (defEnds 4 R e).ex := fun hoe => by
              rw [hoe] at d2
              refine q_ifE (q_or (q_tst (is_d (i := 3) rfl ?_)))
              cases hn : isNon a with
              | true =>
                rw [hn] at d2
                exact ifT rfl (ifT rfl (hN d2))
              | false =>
                refine ifF rfl (q_tst (q_call1 (rv_d (i := 3) rfl ⟨rfl, a, rfl, ka, ?_⟩)))
                rw [hn] at d2
                cases hm : nameD a with
                | true =>
                  rw [hm] at d2
                  exact ifT rfl (hN d2)
                | false =>
                  rw [hm] at d2
                  exact ifF rfl (tell 3 (0, a) _ _ d2 rfl)
            dsimp only
            refine q_seq (q_if (q_and (q_tst (q_bin (rv_d (i := 2) rfl ⟨leN rfl, okO, okP_strT [], ?_⟩)))))
            rw [neT_nil okO.1]
            cases hoe : os.isEmpty with
            | true =>
              refine ifF rfl (ifF rfl (q_next ?_))
              exact last (by rw [hoe]; rfl)
            | false =>
              refine ifT rfl (q_tst (is_d (i := 0) rfl ?_))
              cases hn : isNon net with
              | true =>
                rw [hoe, hn] at d2
                exact ifT rfl (tellN 15 _ _ d2)
              | false =>
                refine ifF rfl (q_next ?_)
                exact last (by rw [hoe, hn]; rfl)
end
end QL
set_option Elab.async false
set_option linter.all false
set_option maxRecDepth 100000
set_option maxHeartbeats 4000000
namespace QL
open PySem PySem.Spec PyProof.Rows L2
open PySem.W (Frag ksFn)
/-! ### Setting(k = v, ..) -/
theorem len1 {α : Type} {l : List α} (h : l.length = 1) : ∃ a, l = [a] := by
  match l, h with
  | [a], _ => exact ⟨a, rfl⟩
theorem len2 {α : Type} {l : List α} (h : l.length = 2) : ∃ a b, l = [a, b] := by
  match l, h with
  | [a, b], _ => exact ⟨a, b, rfl⟩
theorem len3 {α : Type} {l : List α} (h : l.length = 3) : ∃ a b c, l = [a, b, c] := by
  match l, h with
  | [a, b, c], _ => exact ⟨a, b, c, rfl⟩
theorem len4 {α : Type} {l : List α} (h : l.length = 4) : ∃ a b c d, l = [a, b, c, d] := by
  match l, h with
  | [a, b, c, d], _ => exact ⟨a, b, c, d, rfl⟩
def setK (a1 a2 : Addr) : List (Str × V) := [("grid", .non), ("apart", .ref a1), ("on_grid", .ref a2), ("at_rows", .non)]
theorem vals_app {a b : List V} {c d : List Value} (h1 : Vals a c) (h2 : Vals b d) : Vals (a ++ b) (c ++ d) := by
  induction h1 with
  | nil => exact h2
  | cons r _ ih => exact .cons r ih
theorem vals_take {a : List V} {c : List Value} (h : Vals a c) : ∀ n : Nat, Vals (a.take n) (c.take n) := by
  induction h with
  | nil => intro n; cases n <;> exact .nil
  | cons r _ ih =>
    intro n
    cases n with
    | zero => exact .nil
    | succ n => exact .cons r (ih n)
theorem vals_drop {a : List V} {c : List Value} (h : Vals a c) : ∀ n : Nat, Vals (a.drop n) (c.drop n) := by
  induction h with
  | nil => intro n; cases n <;> exact .nil
  | cons r t ih =>
    intro n
    cases n with
    | zero => exact .cons r t
    | succ n => exact ih n
abbrev psS : List Str := ["self", "grid", "apart", "on_grid", "at_rows"]
section
variable {P : Program} {K : Frag} {mg : Str → Option Value} {a1 a2 f D0 : Addr} {fd : FuncData}
theorem kb4 (F : FunS P K mg "__init__" "Setting.__init__" s_Setting___init__ (setK a1 a2) f D0 fd) : ∃ g, KBn K fd psS 1 ["grid", "apart", "on_grid", "at_rows"] g (fun vs zs => vs ++ zs) := by
  obtain ⟨mv, h⟩ := F.kbn (ps := psS) 1 ["grid", "apart", "on_grid", "at_rows"] [] (fun vs _ zs => vs ++ zs) (by simp [setK]) (fun q hq => nomatch hq) (fun r1 r2 r3 => vals_app r1 r3) (by
    intro D doc pm an cdv ct cc us mv ws h1 h2 h3
    obtain ⟨u, rfl⟩ := len1 h1
    obtain ⟨w1, w2, w3, w4, rfl⟩ := len4 h3
    obtain rfl := List.eq_nil_of_length_eq_zero h2
    rfl)
  exact ⟨_, h⟩
theorem kb1 (F : FunS P K mg "__init__" "Setting.__init__" s_Setting___init__ (setK a1 a2) f D0 fd) : ∃ g, KBn K fd psS 1 ["on_grid"] g (fun vs zs => vs ++ ([.non, .ref a1] ++ (zs ++ [.non]))) := by
  obtain ⟨mv, h⟩ := F.kbn (ps := psS) 1 ["on_grid"] [("grid", .non), ("apart", .ref a1), ("at_rows", .non)] (fun vs mz zs => vs ++ (mz.take 2 ++ (zs ++ mz.drop 2))) (by simp [setK]) (fun q hq => by simp [setK] at hq ⊢; rcases hq with h | h | h <;> simp [h]) (fun r1 r2 r3 => vals_app r1 (vals_app (vals_take r2 2) (vals_app r3 (vals_drop r2 2)))) (by
    intro D doc pm an cdv ct cc us mv ws h1 h2 h3
    obtain ⟨u, rfl⟩ := len1 h1
    obtain ⟨w1, rfl⟩ := len1 h3
    obtain ⟨m1, m2, m3, rfl⟩ := len3 h2
    exact ⟨_, _, _, _, _, _, rfl, rfl, _, _, _, _, _, _, rfl, rfl, _, _, _, _, _, _, rfl, rfl, rfl⟩)
  exact ⟨_, h⟩
theorem kb2 (F : FunS P K mg "__init__" "Setting.__init__" s_Setting___init__ (setK a1 a2) f D0 fd) : ∃ g, KBn K fd psS 1 ["grid", "apart"] g (fun vs zs => vs ++ (zs ++ [.ref a2, .non])) := by
  obtain ⟨mv, h⟩ := F.kbn (ps := psS) 1 ["grid", "apart"] [("on_grid", .ref a2), ("at_rows", .non)] (fun vs mz zs => vs ++ (zs ++ mz)) (by simp [setK]) (fun q hq => by simp [setK] at hq ⊢; rcases hq with h | h <;> simp [h]) (fun r1 r2 r3 => vals_app r1 (vals_app r3 r2)) (by
    intro D doc pm an cdv ct cc us mv ws h1 h2 h3
    obtain ⟨u, rfl⟩ := len1 h1
    obtain ⟨w1, w2, rfl⟩ := len2 h3
    obtain ⟨m1, m2, rfl⟩ := len2 h2
    exact ⟨_, _, _, _, _, _, rfl, rfl, _, _, _, _, _, _, rfl, rfl, rfl⟩)
  exact ⟨_, h⟩
end
section
variable {G : Gw} {a1 a2 : Addr}
theorem kg4 : KG G 5 4 (fun vs zs => vs ++ zs) id := fun H O zs ds hl h => ⟨zs, fun x => rfl, h, by rw [id, ← h.length, hl]⟩
theorem kg1 (e1 : ∀ H : Hp, SqT G.W.K H a1 []) : KG G 5 1 (fun vs zs => vs ++ ([.non, .ref a1] ++ (zs ++ [.non]))) (fun ds => [.non, .tup []] ++ (ds ++ [.non])) := fun H O zs ds hl h => by
  obtain ⟨z, rfl⟩ := len1 hl
  obtain ⟨d, rfl⟩ := len1 (h.length.symm.trans hl)
  cases h with
  | cons h _ => exact ⟨_, fun x => rfl, .cons .non (.cons (.tup (.inr ⟨rfl, e1⟩) .nil) (.cons h (.cons .non .nil))), rfl⟩
theorem kg2 (e2 : ∀ H : Hp, SqT G.W.K H a2 []) : KG G 5 2 (fun vs zs => vs ++ (zs ++ [.ref a2, .non])) (fun ds => ds ++ [.tup [], .non]) := fun H O zs ds hl h => by
  obtain ⟨z, z', rfl⟩ := len2 hl
  obtain ⟨d, d', rfl⟩ := len2 (h.length.symm.trans hl)
  cases h with
  | cons h h' => cases h' with
    | cons h' _ => exact ⟨_, fun x => rfl, .cons h (.cons h' (.cons (.tup (.inr ⟨rfl, e2⟩) .nil) (.cons .non .nil))), rfl⟩
end
end QL
set_option Elab.async false
set_option linter.all false
set_option maxRecDepth 100000
set_option maxHeartbeats 4000000
namespace QL
open PySem L2
open PySem.W (Frag)
mutual
theorem eqD_refl : ∀ {d : D}, plD d = true → PyData.eqv (toP d) (toP d) = true
  | .non, _ => rfl
  | .bl b, _ => by cases b <;> rfl
  | .int i, _ => by show (i == i) = true; simp
  | .str z, _ => by show (z == z) = true; simp
  | .tup xs, h => eqDs_refl (ds := xs) h
  | .lst xs, h => eqDs_refl (ds := xs) h
  | .dk _ _, h => by cases h
  | .dt _ _, h => by cases h
  | .ins _ _ _ _, h => by cases h
  | .rf _, h => by cases h
  | .scr _, h => by cases h
  | .exc _ _ _ _ _, h => by cases h
theorem eqDs_refl : ∀ {ds : List D}, plDs ds = true → PyData.eqvAll (toPs ds) (toPs ds) = true
  | [], _ => rfl
  | x :: xs, h => by
    have h : (plD x && plDs xs) = true := h
    rw [Bool.and_eq_true] at h
    show (PyData.eqv (toP x) (toP x) && PyData.eqvAll (toPs xs) (toPs xs)) = true
    rw [eqD_refl h.1, eqDs_refl h.2]
    rfl
end
theorem eq_self {d : D} (h : okP d) : (eqD d d != false) = true := by
  rw [bneF]
  exact eqD_refl h.1
theorem okP_ss (a b : Str) : okP (.lst [.str a, .str b]) := by
  refine ⟨rfl, ?_⟩
  show (PyData.list [.str a, .str b]).depth ≤ 64
  simp [PyData.depth, PyData.depthAll]
/-! ### what is due, and its text -/
theorem rp_none : Rp true .non "None" := fun R h => h
theorem rp_int {i : Nat} (h : i < 1000) : Rp true (.int (i : Nat)) (Str.ofString (toString ((i : Nat) : Int))) := fun R hR => ⟨small_str i h, hR⟩
theorem rp_sh {x : D} (hx : (∃ xs, x = .tup xs) ∨ ∃ xs, x = .lst xs) (h1 : plD x = true) (h2 : (toP x).showable = true) (h3 : (toP x).hasDict = false) (h4 : (toP x).depth ≤ 60) (h5 : okS (toP x).shown) : Rp true x (toP x).shown := fun R hR => by
  rcases hx with ⟨xs, rfl⟩ | ⟨xs, rfl⟩
  · exact ⟨⟨rfl, h1, h2, h3, h4, h5⟩, hR⟩
  · exact ⟨⟨rfl, h1, h2, h3, h4, h5⟩, hR⟩
theorem due_some {net pairs ons a : D} {x : XD} (h : setDue net pairs ons a = some x) (kp : kn2 pairs) (ko : kn2 ons) (hn : netOk net = false → ∃ z, Rp true net z) (ha : isNon a = false → nameD a = false → ∃ z, Rp true a z) : x.1 < 16 ∧ ∃ z, Rp true x.2 z := by
  unfold setDue at h
  split at h
  · rename_i h1
    cases h
    exact ⟨Nat.le_of_ble_eq_true rfl, hn h1⟩
  · split at h
    · rename_i ps
      split at h
      · rename_i i hi
        cases h
        have := scanG_lt hi
        have := (kp.2 ps rfl).1
        exact ⟨Nat.le_of_ble_eq_true rfl, _, rp_int (by omega)⟩
      · split at h
        · rename_i os
          split at h
          · rename_i i hi
            cases h
            have := scanG_lt hi
            have := (ko.2 os rfl).1
            exact ⟨Nat.le_of_ble_eq_true rfl, _, rp_int (by omega)⟩
          · split at h
            · cases h
              exact ⟨Nat.le_of_ble_eq_true rfl, _, rp_none⟩
            · split at h
              · cases h
              · rename_i hz
                cases h
                rw [Bool.not_eq_true, Bool.or_eq_false_iff] at hz
                exact ⟨Nat.le_of_ble_eq_true rfl, ha hz.1 hz.2⟩
        · cases h
          exact ⟨Nat.le_of_ble_eq_true rfl, _, rp_none⟩
    · cases h
      exact ⟨Nat.le_of_ble_eq_true rfl, _, rp_none⟩
theorem due_none {net pairs ons a : D} (h : setDue net pairs ons a = none) : netOk net = true ∧ ∃ ps os, pairs = .tup ps ∧ ons = .tup os ∧ (∀ x ∈ ps, pairOk x = true) ∧ (∀ x ∈ os, nameD x = true) ∧ (isNon a = true ∨ nameD a = true) := by
  unfold setDue at h
  split at h
  · cases h
  · rename_i h1
    have h1 : netOk net = true := by
      cases hn : netOk net with
      | true => rfl
      | false => exact absurd hn h1
    split at h
    · rename_i ps
      split at h
      · cases h
      · rename_i hp
        split at h
        · rename_i os
          split at h
          · cases h
          · rename_i ho
            split at h
            · cases h
            · split at h
              · rename_i hz
                rw [Bool.or_eq_true] at hz
                exact ⟨h1, ps, os, rfl, rfl, scanP_ok hp, scanF_ok ho, hz⟩
              · cases h
        · cases h
    · cases h
def nets : List D := [.tup [.int 0, .int 0], .tup [.int 61, .int 0], .tup [.int 5, .int 5], .tup [.int 5, .int (-1)], .tup [.int 5], .tup [.int 5, .int 1, .int 2], .lst [.int 5, .int 1], .tup [.bl true, .int 0], .tup [.int 5, .bl false], .int 5, .str "5 1", .tup [.str "5", .int 1], .dk [] [], .tup []]
theorem nets_ok : ∀ x ∈ nets, kn2 x ∧ ∃ z, Rp true x z := by
  intro x hx
  have kk : ∀ xs : List D, xs.length ≤ 20 → xs.all knB = true → kn2 (.tup xs) := fun xs h1 h2 => kn2_tup h1 fun y hy => known_of (List.all_eq_true.mp h2 y hy)
  have ko : ∀ x : D, knD x = true → (∀ xs, x ≠ .tup xs) → kn2 x := fun x h1 h2 => ⟨h1, fun xs e => absurd e (h2 xs)⟩
  simp only [nets, List.mem_cons, List.not_mem_nil, or_false] at hx
  rcases hx with rfl | rfl | rfl | rfl | rfl | rfl | rfl | rfl | rfl | rfl | rfl | rfl | rfl | rfl
  · exact ⟨kk _ (by decide) rfl, _, rp_sh (.inl ⟨_, rfl⟩) (by decide +kernel) (by decide +kernel) (by decide +kernel) (by decide +kernel) (by decide +kernel)⟩
  · exact ⟨kk _ (by decide) rfl, _, rp_sh (.inl ⟨_, rfl⟩) (by decide +kernel) (by decide +kernel) (by decide +kernel) (by decide +kernel) (by decide +kernel)⟩
  · exact ⟨kk _ (by decide) rfl, _, rp_sh (.inl ⟨_, rfl⟩) (by decide +kernel) (by decide +kernel) (by decide +kernel) (by decide +kernel) (by decide +kernel)⟩
  · exact ⟨kk _ (by decide) rfl, _, rp_sh (.inl ⟨_, rfl⟩) (by decide +kernel) (by decide +kernel) (by decide +kernel) (by decide +kernel) (by decide +kernel)⟩
  · exact ⟨kk _ (by decide) rfl, _, rp_sh (.inl ⟨_, rfl⟩) (by decide +kernel) (by decide +kernel) (by decide +kernel) (by decide +kernel) (by decide +kernel)⟩
  · exact ⟨kk _ (by decide) rfl, _, rp_sh (.inl ⟨_, rfl⟩) (by decide +kernel) (by decide +kernel) (by decide +kernel) (by decide +kernel) (by decide +kernel)⟩
  · exact ⟨ko _ rfl (fun xs e => by cases e), _, rp_sh (.inr ⟨_, rfl⟩) (by decide +kernel) (by decide +kernel) (by decide +kernel) (by decide +kernel) (by decide +kernel)⟩
  · exact ⟨kk _ (by decide) rfl, _, rp_sh (.inl ⟨_, rfl⟩) (by decide +kernel) (by decide +kernel) (by decide +kernel) (by decide +kernel) (by decide +kernel)⟩
  · exact ⟨kk _ (by decide) rfl, _, rp_sh (.inl ⟨_, rfl⟩) (by decide +kernel) (by decide +kernel) (by decide +kernel) (by decide +kernel) (by decide +kernel)⟩
  · exact ⟨ko _ rfl (fun xs e => by cases e), _, rp_int (i := 5) (by decide)⟩
  · exact ⟨ko _ rfl (fun xs e => by cases e), _, fun R hR => ⟨by decide +kernel, hR⟩⟩
  · exact ⟨kk _ (by decide) rfl, _, rp_sh (.inl ⟨_, rfl⟩) (by decide +kernel) (by decide +kernel) (by decide +kernel) (by decide +kernel) (by decide +kernel)⟩
  · exact ⟨ko _ rfl (fun xs e => by cases e), _, fun R hR => ⟨rfl, hR⟩⟩
  · exact ⟨kk _ (by decide) rfl, _, rp_sh (.inl ⟨_, rfl⟩) (by decide +kernel) (by decide +kernel) (by decide +kernel) (by decide +kernel) (by decide +kernel)⟩
theorem ats_ok {z : Str} (hz : nameS z = true) : ∀ x ∈ ([.bl true, .int 0, .str "", .str "A", .tup [.str z], .lst [], .dk [] []] : List D), knD x = true ∧ ∃ z, Rp true x z := by
  intro x hx
  simp only [List.mem_cons, List.not_mem_nil, or_false] at hx
  rcases hx with rfl | rfl | rfl | rfl | rfl | rfl | rfl
  · exact ⟨rfl, _, fun R hR => hR⟩
  · exact ⟨rfl, _, rp_int (i := 0) (by decide)⟩
  · exact ⟨rfl, _, fun R hR => ⟨by decide +kernel, hR⟩⟩
  · exact ⟨rfl, _, fun R hR => ⟨by decide +kernel, hR⟩⟩
  · exact ⟨rfl, _, rp_sh (.inl ⟨_, rfl⟩) rfl (by simp [toP, toPs, PyData.showable, PyData.showableAll]) (by simp [toP, toPs, PyData.hasDict, PyData.hasDictAll]) (by simp [toP, toPs, PyData.depth, PyData.depthAll]) (okS_rep1 hz)⟩
  · exact ⟨rfl, _, rp_sh (.inr ⟨_, rfl⟩) (by decide +kernel) (by decide +kernel) (by decide +kernel) (by decide +kernel) (by decide +kernel)⟩
  · exact ⟨rfl, _, fun R hR => ⟨rfl, hR⟩⟩
def oddP (z : Str) : List D := [.non, .tup [.str z], .tup [.str z, .int 0], .tup [.str z, .bl true], .tup [.str z, .int (10 ^ (9 : Int).toNat + 1)], .tup [.str z, .int (-1)], .lst [.str z, .int 2], .tup [.str z, .int 2, .int 3], .tup [.str "A", .int 2], .str z, .tup [.str z, .str "2"], .tup [.lst [.str z], .int 2], .tup [.str z, .int 2], .dk [] [], .tup [.int 1, .str z], .tup [.str z, .lst [.int 2]]]
theorem oddP_kn (z : Str) : ∀ x ∈ oddP z, known x := fun x hx => known_of (List.all_eq_true.mp (show (oddP z).all knB = true from rfl) x hx)
def oddF (z : Str) : List D := [.non, .str "A", .tup [.str z], .lst [.str z], .int 1, .str "", .dk [] [], .str z, .str (z ++ "0123456789")]
theorem oddF_kn (z : Str) : ∀ x ∈ oddF z, known x := fun x hx => known_of (List.all_eq_true.mp (show (oddF z).all knB = true from rfl) x hx)
theorem dig10 : ("0123456789" : Str).length = 10 := by decide +kernel
abbrev s__law_right : Stmt := top 62
abbrev n__law_right : List Str := ["_law_source_here", "_law_tags_here", "_law_known_here", "_law_one_here", "_law_nets", "_law_net_here", "_law_odd", "_law_pairs", "_law_ons", "_law_at", "_law_due_here", "_law_told"]
theorem sc__law_right : FnScope n__law_right ["_law_source_here"] (defScope s__law_right) := ⟨rfl, rfl, rfl, by decide +kernel, rfl, by decide +kernel, by decide +kernel⟩
def psRight : PSp := fun ss R _ => ∃ (p : Addr) (n : Nat), ss = [.m p (.src n)] ∧ n < 40000 ∧ ∀ n', n' ≤ n + 500 → R (.d (.bl true)) [(p, .src n')]
section
variable {P : Program} {w : World} {G : Gw} {mg : Str → Option Value} {base : Heap} {k : Nat} {f : Addr} {fd : FuncData} {a1 a2 D0 : Addr} {fP fO fTs fK fB fD fC fF fI fX fY : Addr} {dP dO dTs dK dB dD dC dF dI dX dY : FuncData}
theorem p_right (F : Fun G.W.K "_law_right" "_law_right" s__law_right f fd) (LA0 : LamAt G base mg ("_law_right" ++ ".<locals>.") fd.code) (T : Bn mg) (EK : ErrK G mg)
    (Z__law_pick : DefAt G.W.K mg "_law_pick" sPick fP dP ["_law_source_here", "_law_many"]) (Z__law_one : DefAt G.W.K mg "_law_one" s__law_one fO dO ["_law_source_here", "_law_things"])
    (Z__law_tags : DefAt G.W.K mg "_law_tags" s__law_tags fTs dTs ["_law_source_here", "_law_many"]) (F__law_tags : ∀ j, FnOk P w G.W.K mg base (L2N.CX P w) (j + 4) fTs dTs ["_law_source_here", "_law_many"] (toSp G 2 psTags))
    (Z__law_known : DefAt G.W.K mg "_law_known" s__law_known fK dK ["_law_source_here", "_law_tags_here"]) (F__law_known : ∀ j, FnOk P w G.W.K mg base (L2N.CX P w) (j + 4) fK dK ["_law_source_here", "_law_tags_here"] (toSp G 2 psKnown))
    (Z__law_bent : DefAt G.W.K mg "_law_bent" s__law_bent fB dB ["_law_source_here", "_law_things", "_law_odd"]) (F__law_bent : ∀ j, FnOk P w G.W.K mg base (L2N.CX P w) (j + 3) fB dB ["_law_source_here", "_law_things", "_law_odd"] (toSp G 3 psBent))
    (Z__law_due : DefAt G.W.K mg "_law_due" s__law_due fD dD ["_law_net_here", "_law_pairs", "_law_ons", "_law_at"]) (F__law_due : ∀ j, FnOkG P w G.W.K mg base (L2N.CX P w) (j + 3) fD dD ["_law_net_here", "_law_pairs", "_law_ons", "_law_at"] (toSp G 4 psDue))
    (Z__law_known_text : DefAt G.W.K mg "_law_known_text" s__law_known_text fY dY ["_law_known_here"]) (F__law_known_text : ∀ j, FnOk P w G.W.K mg base (L2N.CX P w) (j + 1) fY dY ["_law_known_here"] (toSp G 1 psKT))
    (Z__law_caught : DefAt G.W.K mg "_law_caught" s__law_caught fC dC ["_law_act"]) (Z__law_field : DefAt G.W.K mg "_law_field" s__law_field fF dF ["_law_e", "_law_at"])
    (MK_Setting : Mk G.W.K (G.W.CA 23) fI) (MG_Setting : mg "Setting" = some (.ref (G.W.CA 23))) (FS : FunS P G.W.K mg "__init__" "Setting.__init__" s_Setting___init__ (setK a1 a2) fI D0 dI) (F_Setting_init : ∀ j, FnOk P w G.W.K mg base (L2N.CX P w) (j + 4) fI dI psS (toSp G 5 psSet))
    (SH_str : ∀ c ∈ [23], PySem.W.findIn G.W.K (.ref (G.W.CA c)) "__str__" = some (some (.ref fX)) ∧ PySem.W.isFn G.W.K (.ref fX) = true) (F_strO : ∀ j, FnOk P w G.W.K mg base (L2N.CX P w) (j + 1) fX dX ["self"] (toSp G 1 psWStr)) (SB_str : Binds G.W.K dX ["self"] []) :
    FnOkG P w G.W.K mg base (L2N.CX P w) (k + 9) f fd ["_law_source_here"] (toSp G 1 psRight) := by
  have F__law_pick : ∀ j, FnOk P w G.W.K mg base (L2N.CX P w) (j + 1) fP dP ["_law_source_here", "_law_many"] (toSp G 2 psPick) := fun j => p_pick Z__law_pick.F T
  have F__law_one : ∀ j, FnOk P w G.W.K mg base (L2N.CX P w) (j + 2) fO dO ["_law_source_here", "_law_things"] (toSp G 2 psOne) := fun j => p_one Z__law_one.F T Z__law_pick
  obtain ⟨g4, KB_4⟩ := kb4 FS
  have KG_4 := kg4 (G := G)
  refine fn_pureLG (k := k + 8) F LA0 sc__law_right (by decide) fun cdv A outer s H E LA c => ⟨_, _, (dss_cons (ds_set (i := 1) (de_callS c 0 (F__law_tags _) Z__law_tags.g Z__law_tags.F.kp Z__law_tags.b (da_cons (de_add c de_int (de_callS c 0 (F__law_pick _) Z__law_pick.g Z__law_pick.F.kp Z__law_pick.b (da_cons de_int da_nil))) da_nil)) c.nd)
      (dss_cons (ds_par (i := 2) (j := 3) c (da_cons (de_callS c 0 (F__law_known _) Z__law_known.g Z__law_known.F.kp Z__law_known.b (da_cons (de_var 1) da_nil)) (da_cons (de_itemV c 1 de_int) da_nil)))
      (dss_cons (ds_set (i := 4) (de_lst (da_cons (de_tup (da_cons de_int (da_cons de_int da_nil))) (da_cons (de_tup (da_cons de_int (da_cons de_int da_nil))) (da_cons (de_tup (da_cons de_int (da_cons de_int da_nil))) (da_cons (de_tup (da_cons de_int (da_cons (de_neg de_int) da_nil))) (da_cons (de_tup (da_cons de_int da_nil)) (da_cons (de_tup (da_cons de_int (da_cons de_int (da_cons de_int da_nil)))) (da_cons (de_lst (da_cons de_int (da_cons de_int da_nil))) (da_cons (de_tup (da_cons de_bl (da_cons de_int da_nil))) (da_cons (de_tup (da_cons de_int (da_cons de_bl da_nil))) (da_cons de_int (da_cons de_str da_nil)))))))))))) c.nd)
      (dss_cons (ds_set (i := 4) (de_add c (de_var 4) (de_lst (da_cons (de_tup (da_cons de_str (da_cons de_int da_nil))) (da_cons de_dnewK (da_cons (de_tup da_nil) da_nil))))) c.nd)
      (dss_cons (ds_set (i := 5) (de_ifE (dt_eq c (de_callS c 0 (F__law_pick _) Z__law_pick.g Z__law_pick.F.kp Z__law_pick.b (da_cons de_int da_nil)) de_int) (de_callS c 0 (F__law_one _) Z__law_one.g Z__law_one.F.kp Z__law_one.b (da_cons (de_var 4) da_nil)) (de_itemV c 2 de_int)) c.nd)
      (dss_cons (ds_set (i := 6) (de_lst (da_cons de_non (da_cons (de_tup (da_cons (de_var 3) da_nil)) (da_cons (de_tup (da_cons (de_var 3) (da_cons de_int da_nil))) (da_cons (de_tup (da_cons (de_var 3) (da_cons de_bl da_nil))) (da_cons (de_tup (da_cons (de_var 3) (da_cons (de_add c (de_pow de_int de_int) de_int) da_nil))) (da_cons (de_tup (da_cons (de_var 3) (da_cons (de_neg de_int) da_nil))) (da_cons (de_lst (da_cons (de_var 3) (da_cons de_int da_nil))) (da_cons (de_tup (da_cons (de_var 3) (da_cons de_int (da_cons de_int da_nil)))) (da_cons (de_tup (da_cons de_str (da_cons de_int da_nil))) (da_cons (de_var 3) da_nil))))))))))) c.nd)
      (dss_cons (ds_set (i := 7) (de_callS c 0 (F__law_bent _) Z__law_bent.g Z__law_bent.F.kp Z__law_bent.b (da_cons (de_itemV c 2 de_int) (da_cons (de_add c (de_var 6) (de_lst (da_cons (de_tup (da_cons (de_var 3) (da_cons de_str da_nil))) (da_cons (de_tup (da_cons (de_lst (da_cons (de_var 3) da_nil)) (da_cons de_int da_nil))) (da_cons (de_tup (da_cons (de_var 3) (da_cons de_int da_nil))) (da_cons de_dnewK (da_cons (de_tup (da_cons de_int (da_cons (de_var 3) da_nil))) (da_cons (de_tup (da_cons (de_var 3) (da_cons (de_lst (da_cons de_int da_nil)) da_nil))) da_nil)))))))) da_nil))) c.nd)
      (dss_cons (ds_set (i := 8) (de_callS c 0 (F__law_bent _) Z__law_bent.g Z__law_bent.F.kp Z__law_bent.b (da_cons (de_itemV c 2 de_int) (da_cons (de_lst (da_cons de_non (da_cons de_str (da_cons (de_tup (da_cons (de_var 3) da_nil)) (da_cons (de_lst (da_cons (de_var 3) da_nil)) (da_cons de_int (da_cons de_str (da_cons de_dnewK (da_cons (de_var 3) (da_cons (de_add c (de_var 3) de_str) da_nil)))))))))) da_nil))) c.nd)
      (dss_cons (ds_set (i := 9) (de_ifE (dt_eq c (de_callS c 0 (F__law_pick _) Z__law_pick.g Z__law_pick.F.kp Z__law_pick.b (da_cons de_int da_nil)) de_int) (de_callS c 0 (F__law_one _) Z__law_one.g Z__law_one.F.kp Z__law_one.b (da_cons (de_lst (da_cons de_bl (da_cons de_int (da_cons de_str (da_cons de_str (da_cons (de_tup (da_cons (de_var 3) da_nil)) (da_cons (de_lst da_nil) (da_cons de_dnewK da_nil)))))))) da_nil)) (de_itemV c 2 de_int)) c.nd)
      (dss_cons (ds_set (i := 10) (de_callG c (F__law_due _) Z__law_due.g Z__law_due.F.kp Z__law_due.b (da_cons (de_var 5) (da_cons (de_var 7) (da_cons (de_var 8) (da_cons (de_var 9) da_nil))))) c.nd)
      (dss_cons (ds_set (i := 11) (de_caught c T EK Z__law_caught Z__law_field LA (fun _ _ _ _ _ _ _ cL => ⟨_, (de_mkK cL MK_Setting (F_Setting_init _) MG_Setting KB_4 KG_4 (dk_cons (de_var 5) (dk_cons (de_var 7) (dk_cons (de_var 8) (dk_cons (de_var 9) dk_nil)))))⟩) (L := LamX.lamS_by (sc := defScope s__law_right) (by decide +kernel))) c.nd)
      (dss_cons (ds_if (dt_isNot (de_var 10) de_non) (dss_one (ds_ret (de_eq c (de_var 11) (de_var 10)))) dss_nil)
      (dss_one (ds_ret (de_and (de_eq c (de_itemV c 11 de_int) de_str) (de_one (de_eq c (de_strO c T SH_str (F_strO _) SB_str (de_itemV c 11 de_int)) (de_call c (F__law_known_text _) Z__law_known_text.g Z__law_known_text.F.kp Z__law_known_text.b (da_cons (de_lst (da_cons (de_var 5) (da_cons (de_list c T (da_cons (de_var 7) da_nil)) (da_cons (de_list c T (da_cons (de_var 8) da_nil)) (da_cons (de_var 9) da_nil))))) da_nil))))))))))))))))))), fun ss R e hsp hl => ?_⟩
  obtain ⟨p, n, rfl, hn, hR⟩ := hsp
  refine ⟨⟨_, rfl⟩, ⟨_, rfl⟩, rfl, p, 3, n, rfl, by decide, by decide, by omega, fun d hd => ⟨_, rfl, ?_⟩⟩
  refine ⟨rfl, p, 1 + d, n + 1, rfl, by omega, by omega, fun zs q1 n1 hzl hznd hznm hn1 => ⟨_, rfl, ltR rfl, ?_⟩⟩
  refine toE (ρ' := [some (.m p (.src n1)), some (.m q1 (.lst (dstr zs))), none, none, none, none, none, none, none, none, none, none]) rfl ?_
  obtain ⟨z, zt, rfl⟩ : ∃ z zt, zs = z :: zt := by
    cases zs with
    | nil => simp at hzl; omega
    | cons z zt => exact ⟨z, zt, rfl⟩
  have hz : nameS z = true := hznm z List.mem_cons_self
  have hz0 : atI (dstr (z :: zt)) (0 : Int) = some (.str z) := atI_nat (xs := dstr (z :: zt)) (show (dstr (z :: zt))[0]? = some (.str z) from rfl)
  refine ⟨⟨_, rfl⟩, rfl, p, n1, z :: zt, rfl, by omega, by simp, by omega, hznm, fun net0 ps os a0 q2 n2 hnet hps hos ha0 lps los hn2 => ⟨_, rfl, ⟨_, rfl⟩, opt_ok hz0 ⟨⟨ltR rfl, ltR rfl⟩, ?_⟩⟩⟩
  refine toE (ρ' := [some (.m p (.src n2)), some (.d (.lst (dstr (z :: zt)))), some (.m q2 (.lst [net0, .lst ps, .lst os, a0])), some (.d (.str z)), none, none, none, none, none, none, none, none]) rfl ?_
  refine ⟨leN rfl, leN rfl, leN rfl, leN rfl, leN rfl, leN rfl, leN rfl, fun q3 => ⟨leN rfl, leN rfl, leN rfl, fun q4 => ⟨ltR rfl, ?_⟩⟩⟩
  refine toE (ρ' := [some (.m p (.src n2)), some (.d (.lst (dstr (z :: zt)))), some (.m q2 (.lst [net0, .lst ps, .lst os, a0])), some (.d (.str z)), some (.m q4 (.lst (nets.take 11))), none, none, none, none, none, none, none]) rfl ?_
  dsimp only
  refine q_seq (q_set ?_)
  refine ⟨leN rfl, fun q5 => ⟨leN rfl, ⟨leN rfl, fun q6 => ⟨leN rfl, fun q7 => ⟨ltR rfl, ?_⟩⟩⟩⟩⟩
  refine toE (ρ' := [some (.m p (.src n2)), some (.d (.lst (dstr (z :: zt)))), some (.m q2 (.lst [net0, .lst ps, .lst os, a0])), some (.d (.str z)), some (.m q7 (.lst nets)), none, none, none, none, none, none, none]) rfl ?_
  -- the grid
  have s5 : ∀ (K : S → Env → Prop) (e : XD → Prop), (∀ (net : D) (n3 : Nat) (x4 : Option S), kn2 net → (netOk net = false → ∃ z, Rp true net z) → n3 ≤ n2 + 2 → K (.d net) [some (.m p (.src n3)), some (.d (.lst (dstr (z :: zt)))), some (.m q2 (.lst [net0, .lst ps, .lst os, a0])), some (.d (.str z)), x4, none, none, none, none, none, none, none]) →
      rIfE (rTst (rBin (lift2 (gEq false)) (rCallS 2 0 psPick (rCons (rC (.int 5)) rNil)) (rC (.int 0)))) (rCallS 2 0 psOne (rCons (rVar 4) rNil)) (rItemV 2 (rC (.int 0))) [some (.m p (.src n2)), some (.d (.lst (dstr (z :: zt)))), some (.m q2 (.lst [net0, .lst ps, .lst os, a0])), some (.d (.str z)), some (.m q7 (.lst nets)), none, none, none, none, none, none, none] K e := by
    intro K e hk
    refine ⟨⟨_, rfl⟩, rfl, p, 5, n2, rfl, by decide, by decide, by omega, fun d hd => ⟨_, rfl, okP_int, okP_int, ?_⟩⟩
    rw [two_eq]
    by_cases h0 : d = 0
    · refine ifT (decide_eq_true h0) ⟨⟨_, rfl⟩, rfl, p, n2 + 1, _, nets, rfl, rfl, by decide, by decide, by omega, fun x hx => ⟨_, rfl, ?_⟩⟩
      obtain ⟨h1, h2⟩ := nets_ok x hx
      exact hk x _ _ h1 (fun _ => h2) (by omega)
    · refine ifF (decide_eq_false h0) ⟨⟨_, rfl⟩, ?_⟩
      refine hk net0 _ _ ?_ (fun h => by rw [hnet] at h; cases h) (by omega)
      cases hn : isNon net0 with
      | true =>
        have : net0 = .non := by cases net0 <;> first | rfl | cases hn
        subst this
        exact ⟨rfl, fun xs e => by cases e⟩
      | false =>
        obtain ⟨i, j, rfl, _⟩ := net_to hnet hn
        exact kn2_tup (by show 2 ≤ 20; decide) fun y hy => known_of (List.all_eq_true.mp (show [D.int i, .int j].all knB = true from rfl) y hy)
  dsimp only
  refine q_seq (q_set (s5 _ _ fun net n3 x4 kn hrn hn3 => ⟨ltR rfl, ?_⟩))
  dsimp only
  refine q_seq (q_set ?_)
  refine ⟨leN rfl, leN rfl, leN rfl, ⟨⟨by decide, by decide, by decide⟩, ⟨leN rfl, leN rfl, leN rfl, fun q8 => ⟨leN rfl, leN rfl, leN rfl, fun q9 => ⟨ltR rfl, ?_⟩⟩⟩⟩⟩
  refine toE (ρ' := [some (.m p (.src n3)), some (.d (.lst (dstr (z :: zt)))), some (.m q2 (.lst [net0, .lst ps, .lst os, a0])), some (.d (.str z)), x4, some (.d net), some (.m q9 (.lst ((oddP z).take 10))), none, none, none, none, none]) rfl ?_
  dsimp only
  refine q_seq (q_set ?_)
  have kps : ∀ x ∈ ps, known x := fun x hx => by
    obtain ⟨z, i, rfl, _⟩ := pair_to (hps x hx)
    exact known_of rfl
  have kos : ∀ x ∈ os, known x := fun x hx => by
    obtain ⟨z, rfl, _⟩ := name_str (hos x hx)
    exact known_of rfl
  refine ⟨⟨_, rfl⟩, ⟨_, rfl⟩, ⟨leN rfl, ⟨leN rfl, fun q10 => ⟨leN rfl, leN rfl, fun q11 => ⟨leN rfl, ⟨leN rfl, fun q12 => ⟨leN rfl, leN rfl, fun q13 => ⟨leN rfl, fun q14 => ?_⟩⟩⟩⟩⟩⟩⟩⟩
  refine ⟨rfl, p, n3, ps, oddP z, rfl, by omega, lps, Nat.le_of_ble_eq_true rfl, Nat.le_of_ble_eq_true rfl, kps, oddP_kn z, fun pairs n4 kp hn4 => ⟨_, rfl, ltR rfl, ?_⟩⟩
  refine toE (ρ' := [some (.m p (.src n4)), some (.d (.lst (dstr (z :: zt)))), some (.m q2 (.lst [net0, .lst ps, .lst os, a0])), some (.d (.str z)), x4, some (.d net), some (.d (.lst ((oddP z).take 10))), some (.d pairs), none, none, none, none]) rfl ?_
  dsimp only
  refine q_seq (q_set ?_)
  refine ⟨⟨_, rfl⟩, ⟨_, rfl⟩, ⟨leN rfl, leN rfl, fun q15 => fun q16 => ⟨?_, ⟨leN rfl, fun q17 => ?_⟩⟩⟩⟩
  · rw [dig10, sizeLine_eq]
    have := (name_ok hz).2.2
    omega
  refine ⟨rfl, p, n4, os, oddF z, rfl, by omega, los, Nat.le_of_ble_eq_true rfl, Nat.le_of_ble_eq_true rfl, kos, oddF_kn z, fun ons n5 ko hn5 => ⟨_, rfl, ltR rfl, ?_⟩⟩
  refine toE (ρ' := [some (.m p (.src n5)), some (.d (.lst (dstr (z :: zt)))), some (.m q2 (.lst [net0, .lst ps, .lst os, a0])), some (.d (.str z)), x4, some (.d net), some (.d (.lst ((oddP z).take 10))), some (.d pairs), some (.d ons), none, none, none]) rfl ?_
  -- the last one
  have s9 : ∀ (K : S → Env → Prop) (e : XD → Prop), (∀ (a : D) (n6 : Nat), knD a = true → (isNon a = false → nameD a = false → ∃ z, Rp true a z) → n6 ≤ n5 + 2 → K (.d a) [some (.m p (.src n6)), some (.d (.lst (dstr (z :: zt)))), some (.m q2 (.lst [net0, .lst ps, .lst os, a0])), some (.d (.str z)), x4, some (.d net), some (.d (.lst ((oddP z).take 10))), some (.d pairs), some (.d ons), none, none, none]) →
      rIfE (rTst (rBin (lift2 (gEq false)) (rCallS 2 0 psPick (rCons (rC (.int 4)) rNil)) (rC (.int 0)))) (rCallS 2 0 psOne (rCons (rLst (rCons (rC (.bl true)) (rCons (rC (.int 0)) (rCons (rC (.str "")) (rCons (rC (.str "A")) (rCons (rTup (rCons (rVar 3) rNil)) (rCons (rLst rNil) (rCons rDnewK rNil)))))))) rNil)) (rItemV 2 (rC (.int 3))) [some (.m p (.src n5)), some (.d (.lst (dstr (z :: zt)))), some (.m q2 (.lst [net0, .lst ps, .lst os, a0])), some (.d (.str z)), x4, some (.d net), some (.d (.lst ((oddP z).take 10))), some (.d pairs), some (.d ons), none, none, none] K e := by
    intro K e hk
    refine ⟨⟨_, rfl⟩, rfl, p, 4, n5, rfl, by decide, by decide, by omega, fun d hd => ⟨_, rfl, okP_int, okP_int, ?_⟩⟩
    rw [two_eq]
    by_cases h0 : d = 0
    · refine ifT (decide_eq_true h0) ⟨⟨_, rfl⟩, ⟨leN rfl, leN rfl, fun _ => fun _ => ⟨leN rfl, fun _ => ⟨rfl, p, n5 + 1, _, [.bl true, .int 0, .str "", .str "A", .tup [.str z], .lst [], .dk [] []], rfl, rfl, Nat.le_of_ble_eq_true rfl, Nat.le_of_ble_eq_true rfl, by omega, fun x hx => ⟨_, rfl, ?_⟩⟩⟩⟩⟩
      obtain ⟨h1, h2⟩ := ats_ok hz x hx
      exact hk x _ h1 (fun _ _ => h2) (by omega)
    · refine ifF (decide_eq_false h0) ⟨⟨_, rfl⟩, ?_⟩
      refine hk a0 _ ?_ (fun h1 h2 => ?_) (by omega)
      · rcases ha0 with h | h
        · cases a0 <;> first | rfl | cases h
        · obtain ⟨y, rfl, _⟩ := name_str h
          rfl
      · rcases ha0 with h | h
        · rw [h] at h1; cases h1
        · rw [h] at h2; cases h2
  dsimp only
  refine q_seq (q_set (s9 _ _ fun a n6 ka hra hn6 => ⟨ltR rfl, ?_⟩))
  dsimp only
  refine q_seq (q_set ?_)
  have fin : R (.d (.bl true)) [(p, .src n6)] := hR n6 (by omega)
  refine ⟨rfl, net, pairs, ons, a, rfl, kn, kp, ko, ka, fun hd => ⟨ltR rfl, ?_⟩, fun x hx => ?_⟩
  · -- the setting
    obtain ⟨hno, ps', os', rfl, rfl, hpo, hoo, hao⟩ := due_none hd
    refine toE (ρ' := [some (.m p (.src n6)), some (.d (.lst (dstr (z :: zt)))), some (.m q2 (.lst [net0, .lst ps, .lst os, a0])), some (.d (.str z)), x4, some (.d net), some (.d (.lst ((oddP z).take 10))), some (.d (.tup ps')), some (.d (.tup os')), some (.d a), some (.d .non), none]) rfl ?_
    dsimp only
    refine q_seq (q_set (q_cap ?_))
    refine ⟨rfl, fun x => ⟨x, net, .tup ps', .tup os', a, rfl, kn, kp, ko, ka, (fun y hy => by rw [hd] at hy; cases hy), fun _ ps2 os2 e1 e2 => ⟨rfl, _, _, rfl, ?_⟩⟩⟩
    cases e1
    cases e2
    refine ⟨ltR rfl, ?_⟩
    refine toE (ρ' := [some (.m p (.src n6)), some (.d (.lst (dstr (z :: zt)))), some (.m q2 (.lst [net0, .lst ps, .lst os, a0])), some (.d (.str z)), x4, some (.d net), some (.d (.lst ((oddP z).take 10))), some (.d (.tup ps')), some (.d (.tup os')), some (.d a), some (.d .non), some (.d (.lst [.str "given", setD x net ps' os' a]))]) rfl ?_
    dsimp only
    refine q_seq (q_if (q_tst (isNot_d (i := 10) rfl (ifF rfl (q_next ?_)))))
    dsimp only
    refine q_ret (q_andV ?_)
    refine ⟨⟨_, rfl⟩, ⟨okP_str, okP_str, ?_⟩⟩
    refine ifT (by decide +kernel) ?_
    refine ⟨⟨_, rfl⟩, ⟨by decide, ⟨23, x, _, _, _, rfl, by decide, rfl, ⟨_, rfl, ?_⟩⟩⟩⟩
    refine fun q18 q19 => ⟨leN rfl, fun q20 => ⟨rfl, net, ps', os', a, rfl, hno, hpo, hoo, hao, (kp.2 _ rfl).1, (ko.2 _ rfl).1, okP_str, okP_str, ?_⟩⟩
    rw [eq_self okP_str]
    exact fin
  · -- the error
    obtain ⟨h16, zr, hzr⟩ := due_some hx kp ko hrn hra
    refine ⟨zr, hzr, fun q => ⟨ltR rfl, ?_⟩⟩
    refine toE (ρ' := [some (.m p (.src n6)), some (.d (.lst (dstr (z :: zt)))), some (.m q2 (.lst [net0, .lst ps, .lst os, a0])), some (.d (.str z)), x4, some (.d net), some (.d (.lst ((oddP z).take 10))), some (.d pairs), some (.d ons), some (.d a), some (.m q (.lst [.str (wdn x.1), .str zr])), none]) rfl ?_
    dsimp only
    refine q_seq (q_set (q_cap ?_))
    refine ⟨rfl, fun y => ⟨y, net, pairs, ons, a, rfl, kn, kp, ko, ka, (fun x' hx' => ?_), fun hd => by rw [hx] at hd; cases hd⟩⟩
    rw [hx] at hx'
    cases hx'
    refine ⟨by omega, ?_⟩
    rw [if_neg (show ¬ x.1 = 17 by omega)]
    refine hzr _ ⟨_, rfl, ltR rfl, ?_⟩
    refine toE (ρ' := [some (.m p (.src n6)), some (.d (.lst (dstr (z :: zt)))), some (.m q2 (.lst [net0, .lst ps, .lst os, a0])), some (.d (.str z)), x4, some (.d net), some (.d (.lst ((oddP z).take 10))), some (.d pairs), some (.d ons), some (.d a), some (.m q (.lst [.str (wdn x.1), .str zr])), some (.d (.lst [.str (wdn x.1), .str zr]))]) rfl ?_
    dsimp only
    refine q_seq (q_if (q_tst (q_bin (rv_m (i := 10) rfl rfl ?_))))
    refine ⟨okP_ss (wdn x.1) zr, okP_ss (wdn x.1) zr, ?_⟩
    rw [eq_self (okP_ss _ _)]
    exact fin
end
end QL
set_option Elab.async false
set_option linter.all false
set_option maxRecDepth 100000
set_option maxHeartbeats 4000000
namespace QL
open PySem L2
open PySem.W (Frag)
theorem set_err {x : Addr} {net pairs ons a : D} {y : XD} {R : S → List (Addr × M) → Prop} {e : XD → Prop} (h : setDue net pairs ons a = some y) (kn : kn2 net) (kp : kn2 pairs) (ko : kn2 ons) (ka : knD a = true) (k : e y) : psSet [.m x (.obj 23 [] []), .d net, .d pairs, .d ons, .d a] R e :=
  ⟨x, net, pairs, ons, a, rfl, kn, kp, ko, ka, fun y' hy => by rw [h] at hy; cases hy; exact k, fun hn => by rw [h] at hn; cases hn⟩
theorem kn2_b {x : D} (h1 : knD x = true) (h2 : (match x with | .tup xs => decide (xs.length ≤ 20) && xs.all knB | _ => true) = true) : kn2 x := ⟨h1, fun xs e => by
  subst e
  rw [Bool.and_eq_true] at h2
  exact ⟨of_decide_eq_true h2.1, fun y hy => known_of (List.all_eq_true.mp h2.2 y hy)⟩⟩
theorem due1 : setDue .non (.tup []) (.tup [.str "a", .str "A"]) .non = some (15, .int ((1 : Nat) : Int)) := by
  have h1 : scanF [.str "a", .str "A"] = some 1 := by decide +kernel
  unfold setDue
  rw [if_neg (by decide +kernel)]
  dsimp only
  rw [h1]
  rfl
theorem due2 : setDue .non (.tup []) (.tup [.str "a"]) .non = some (15, .non) := by
  have h1 : scanF [.str "a"] = none := by decide +kernel
  unfold setDue
  rw [if_neg (by decide +kernel)]
  dsimp only
  rw [h1]
  rfl
def prs3 : List D := [.tup [.str "a", .int (10 ^ (9 : Int).toNat)], .tup [.str "b", .int 1]]
theorem due3 : setDue (.tup [.int 60, .int 59]) (.tup prs3) (.tup []) .non = none := by
  have h1 : scanP prs3 = none := by decide +kernel
  unfold setDue
  rw [if_neg (by decide +kernel)]
  dsimp only
  rw [h1]
  rfl
theorem sort3 : sortD prs3 = prs3 := by
  unfold sortD prs3
  refine List.mergeSort_of_pairwise ?_
  refine .cons (fun x hx => ?_) (.cons (fun x hx => nomatch hx) .nil)
  rw [List.mem_singleton.mp hx]
  decide +kernel
theorem text3 : textOf (.tup [.int 60, .int 59]) (sortD prs3) (sortD []) .non = "grid 60 59; apart a 1000000000; apart b 1" := by
  rw [sort3, show sortD [] = [] from by unfold sortD; exact List.mergeSort_nil]
  decide +kernel
abbrev s__law_by_hand : Stmt := top 63
abbrev n__law_by_hand : List Str := ["_law_told"]
theorem sc__law_by_hand : FnScope n__law_by_hand [] (defScope s__law_by_hand) := ⟨rfl, rfl, rfl, by decide +kernel, rfl, by decide +kernel, by decide +kernel⟩
abbrev s_law : Stmt := top 64
abbrev n_law : List Str := ["_law_script", "_law_k", "_law_source_here", "_law_turn"]
theorem sc_law : FnScope n_law ["_law_script"] (defScope s_law) := ⟨rfl, rfl, rfl, by decide +kernel, rfl, by decide +kernel, by decide +kernel⟩
def psHand : PSp := fun ss R _ => ss = [] ∧ R (.d (.bl true)) []
def psLaw : PSp := fun ss R _ => ∃ ns : List Int, ss = [.d (.scr ns)] ∧ ns.length ≤ 63 ∧ R (.d (.bl true)) []
theorem bls_trues : ∀ n : Nat, blsD (List.replicate n (.bl true)) = some (List.replicate n true)
  | 0 => rfl
  | n + 1 => by
    rw [List.replicate_succ]
    unfold blsD
    rw [bls_trues n]
    rfl
theorem all_trues : ∀ n : Nat, (List.replicate n true).all id = true
  | 0 => rfl
  | n + 1 => by rw [List.replicate_succ, List.all_cons, all_trues n]; rfl
section
variable {P : Program} {w : World} {G : Gw} {mg : Str → Option Value} {base : Heap} {k : Nat} {f : Addr} {fd : FuncData} {a1 a2 D0 fC fF fI fX : Addr} {dC dF dI dX : FuncData}
theorem p_hand (F : Fun G.W.K "_law_by_hand" "_law_by_hand" s__law_by_hand f fd) (LA0 : LamAt G base mg ("_law_by_hand" ++ ".<locals>.") fd.code) (T : Bn mg) (EK : ErrK G mg)
    (Z__law_caught : DefAt G.W.K mg "_law_caught" s__law_caught fC dC ["_law_act"]) (Z__law_field : DefAt G.W.K mg "_law_field" s__law_field fF dF ["_law_e", "_law_at"])
    (e1 : ∀ H : Hp, SqT G.W.K H a1 []) (e2 : ∀ H : Hp, SqT G.W.K H a2 [])
    (MK_Setting : Mk G.W.K (G.W.CA 23) fI) (MG_Setting : mg "Setting" = some (.ref (G.W.CA 23))) (FS : FunS P G.W.K mg "__init__" "Setting.__init__" s_Setting___init__ (setK a1 a2) fI D0 dI) (F_Setting_init : ∀ j, FnOk P w G.W.K mg base (L2N.CX P w) (j + 4) fI dI psS (toSp G 5 psSet))
    (SH_str : ∀ c ∈ [23], PySem.W.findIn G.W.K (.ref (G.W.CA c)) "__str__" = some (some (.ref fX)) ∧ PySem.W.isFn G.W.K (.ref fX) = true) (F_strO : ∀ j, FnOk P w G.W.K mg base (L2N.CX P w) (j + 1) fX dX ["self"] (toSp G 1 psWStr)) (SB_str : Binds G.W.K dX ["self"] []) :
    FnOk P w G.W.K mg base (L2N.CX P w) (k + 9) f fd [] (toSp G 0 psHand) := by
  obtain ⟨g1, KB_1⟩ := kb1 FS
  have KG_1 := kg1 (G := G) e1
  obtain ⟨g2, KB_2⟩ := kb2 FS
  have KG_2 := kg2 (G := G) e2
  refine fn_pureL (k := k + 8) F LA0 sc__law_by_hand (by decide) fun cdv A outer s H E LA c => ⟨_, _, (dss_cons (ds_set (i := 0) (de_lst (da_cons (de_caught c T EK Z__law_caught Z__law_field LA (fun _ _ _ _ _ _ _ cL => ⟨_, (de_mkK cL MK_Setting (F_Setting_init _) MG_Setting KB_1 KG_1 (dk_cons (de_tup (da_cons de_str (da_cons de_str da_nil))) dk_nil))⟩) (L := LamX.lamS_by (sc := defScope s__law_by_hand) (by decide +kernel))) da_nil)) c.nd)
      (dss_cons (ds_expr (de_append c 0 (de_caught c T EK Z__law_caught Z__law_field LA (fun _ _ _ _ _ _ _ cL => ⟨_, (de_mkK cL MK_Setting (F_Setting_init _) MG_Setting KB_1 KG_1 (dk_cons (de_tup (da_cons de_str da_nil)) dk_nil))⟩) (L := LamX.lamS_by (sc := defScope s__law_by_hand) (by decide +kernel)))))
      (dss_cons (ds_expr (de_append c 0 (de_caught c T EK Z__law_caught Z__law_field LA (fun _ _ _ _ _ _ _ cL => ⟨_, (de_strO cL T SH_str (F_strO _) SB_str (de_mkK cL MK_Setting (F_Setting_init _) MG_Setting KB_2 KG_2 (dk_cons (de_tup (da_cons de_int (da_cons de_int da_nil))) (dk_cons (de_tup (da_cons (de_tup (da_cons de_str (da_cons (de_pow de_int de_int) da_nil))) (da_cons (de_tup (da_cons de_str (da_cons de_int da_nil))) da_nil))) dk_nil))))⟩) (L := LamX.lamS_by (sc := defScope s__law_by_hand) (by decide +kernel)))))
      (dss_one (ds_ret (de_eq c (de_var 0) (de_lst (da_cons (de_lst (da_cons de_str (da_cons de_str da_nil))) (da_cons (de_lst (da_cons de_str (da_cons de_str da_nil))) (da_cons (de_lst (da_cons de_str (da_cons de_str da_nil))) da_nil)))))))))), fun ss R e hsp hl => ?_⟩
  obtain ⟨rfl, hR⟩ := hsp
  refine ⟨leN rfl, rfl, fun x => set_err due1 (kn2_b rfl rfl) (kn2_b rfl rfl) (kn2_b rfl rfl) rfl ⟨Nat.le_of_ble_eq_true rfl, ⟨small_str 1 (by decide), _, rfl, ⟨leN rfl, fun q => ⟨ltR rfl, ?_⟩⟩⟩⟩⟩
  refine ⟨⟨_, _, rfl⟩, leN rfl, rfl, fun x => set_err due2 (kn2_b rfl rfl) (kn2_b rfl rfl) (kn2_b rfl rfl) rfl ⟨Nat.le_of_ble_eq_true rfl, ⟨_, rfl, ⟨ltZ rfl, ?_⟩⟩⟩⟩
  refine ⟨⟨_, _, rfl⟩, leN rfl, ⟨⟨by decide, by decide, by decide⟩, ⟨leN rfl, leN rfl, leN rfl, rfl, fun x => ?_⟩⟩⟩
  refine ⟨x, .tup [.int 60, .int 59], .tup prs3, .tup [], .non, rfl, kn2_b rfl rfl, kn2_b rfl rfl, kn2_b rfl rfl, rfl, (fun y hy => by rw [due3] at hy; cases hy), fun _ ps os ep eo => ⟨rfl, _, _, rfl, ?_⟩⟩
  cases ep
  cases eo
  rw [text3]
  refine ⟨by decide, ⟨23, x, _, _, _, rfl, by decide, rfl, ⟨_, rfl, ⟨ltZ rfl, ?_⟩⟩⟩⟩
  refine ⟨leN rfl, fun _ => ⟨leN rfl, fun _ => ⟨leN rfl, fun _ => ⟨leN rfl, fun _ => ⟨by decide +kernel, by decide +kernel, ?_⟩⟩⟩⟩⟩
  have e9 : (eqD (.lst ([.lst [.str "feeds", .str (Str.ofString (toString ((1 : Nat) : Int)))]] ++ [.lst [.str "feeds", .str "None"]] ++ [.lst [.str "given", .str "grid 60 59; apart a 1000000000; apart b 1"]])) (.lst [.lst [.str "feeds", .str "1"], .lst [.str "feeds", .str "None"], .lst [.str "given", .str "grid 60 59; apart a 1000000000; apart b 1"]]) != false) = true := by decide +kernel
  have z : ∀ b, b = true → R (.d (.bl b)) [] := fun b hb => by rw [hb]; exact hR
  exact z _ e9
end
section
variable {P : Program} {w : World} {G : Gw} {mg : Str → Option Value} {base : Heap} {k : Nat} {f : Addr} {fd : FuncData} {fN fS fR fH : Addr} {dN dS dR dH : FuncData}
theorem p_law (F : Fun G.W.K "law" "law" s_law f fd) (T : Bn mg) (Z__law_number : DefAt G.W.K mg "_law_number" sNum fN dN ["_law_script", "_law_k"]) (Z__law_source : DefAt G.W.K mg "_law_source" sSrc fS dS ["_law_cell"])
    (Z__law_right : DefAt G.W.K mg "_law_right" s__law_right fR dR ["_law_source_here"]) (F__law_right : FnOkG P w G.W.K mg base (L2N.CX P w) (k + 9) fR dR ["_law_source_here"] (toSp G 1 psRight))
    (Z__law_by_hand : DefAt G.W.K mg "_law_by_hand" s__law_by_hand fH dH []) (F__law_by_hand : FnOk P w G.W.K mg base (L2N.CX P w) (k + 9) fH dH [] (toSp G 0 psHand)) :
    FnOkG P w G.W.K mg base (L2N.CX P w) (k + 10) f fd ["_law_script"] (toSp G 1 psLaw) := by
  have F__law_number : FnOk P w G.W.K mg base (L2N.CX P w) (k + 9) fN dN ["_law_script", "_law_k"] (toSp G 2 psNum) := p_num Z__law_number.F T
  have F__law_source : FnOk P w G.W.K mg base (L2N.CX P w) (k + 9) fS dS ["_law_cell"] (toSp G 1 psSrc) := p_src Z__law_source.F T
  refine fn_pureG F sc_law (by decide) fun cdv A outer s H E c => ⟨_, _, (dss_cons (ds_for c (di_range T.ran (da_cons (de_max c T (da_cons de_int (da_cons (de_min c T (da_cons (de_lenV c T 0) (da_cons de_int da_nil))) da_nil))) da_nil)) (dg_name 1 c.nd) (dss_cons (ds_set (i := 2) (de_call c F__law_source Z__law_source.g Z__law_source.F.kp Z__law_source.b (da_cons (de_call c F__law_number Z__law_number.g Z__law_number.F.kp Z__law_number.b (da_cons (de_var 0) (da_cons (de_var 1) da_nil))) da_nil)) c.nd)
      (dss_one (ds_if (dt_not (dt_val (de_all c T (da_cons (de_lc (own := [("_law_turn", 3)]) c (di_range T.ran (da_cons de_int da_nil)) (blkOk_by (N := n_law) (sc := defScope s_law) (by decide +kernel)) (fun _ _ _ _ _ => (dg_name 3 c.nd)) (fun _ _ _ _ _ => dts_nil) (fun _ _ _ _ _ => (de_callSG c.blk 2 F__law_right Z__law_right.g Z__law_right.F.kp Z__law_right.b da_nil))) da_nil)))) (dss_one (ds_ret de_bl)) dss_nil))))
      (dss_one (ds_ret (de_call0 c F__law_by_hand Z__law_by_hand.g Z__law_by_hand.F.kp Z__law_by_hand.b)))), fun ss R e hsp hl => ?_⟩
  obtain ⟨ns, rfl, hns, hR⟩ := hsp
  obtain ⟨m, hm, em⟩ : ∃ m : Nat, m ≤ 4 ∧ (if (if (4 : Int) < (ns.length : Nat) then (4 : Int) else (ns.length : Nat)) > 2 then (if (4 : Int) < (ns.length : Nat) then (4 : Int) else (ns.length : Nat)) else 2) = (m : Nat) := by
    by_cases h4 : 4 < ns.length
    · exact ⟨4, by omega, by rw [if_pos (show (4 : Int) < (ns.length : Nat) by omega)]; rfl⟩
    · by_cases h2 : 2 < ns.length
      · exact ⟨ns.length, by omega, by rw [if_neg (show ¬ (4 : Int) < (ns.length : Nat) by omega), if_pos (by omega)]⟩
      · exact ⟨2, by omega, by rw [if_neg (show ¬ (4 : Int) < (ns.length : Nat) by omega), if_neg (by omega)]; rfl⟩
  show (_ ∧ _) ∧ loopR _ _ _ (intsD (Int.toNat (if (if (4 : Int) < (ns.length : Nat) then (4 : Int) else (ns.length : Nat)) > 2 then (if (4 : Int) < (ns.length : Nat) then (4 : Int) else (ns.length : Nat)) else 2))) _
  rw [em]
  refine ⟨⟨by omega, by omega⟩, ?_⟩
  refine loopR_ind (fun done ρ => ∃ x1 x2 x3 : Option S, ρ = [some (.d (.scr ns)), x1, x2, x3]) ⟨none, none, none, rfl⟩ ?_ ?_
  · rintro K done x rest ρ eds ⟨x1, x2, x3, rfl⟩ hK
    obtain ⟨rfl, hlt⟩ := intsD_at eds
    refine ⟨ltR rfl, ⟨rfl, ns, done.length, rfl, hns, by omega, fun v => ⟨rfl, v, rfl, fun p => ⟨ltR rfl, ?_⟩⟩⟩⟩
    refine ⟨⟨by decide, by decide⟩, by decide +kernel, fun q => ?_⟩
    refine lcR_ind (fun dn acc ρ => ∃ (n' : Nat) (y3 : Option S), acc = List.replicate dn.length (.bl true) ∧ n' ≤ 500 * dn.length ∧ ρ = [some (.d (.scr ns)), some (.d (.int (done.length : Nat))), some (.m p (.src n')), y3]) ⟨0, x3, rfl, by omega, rfl⟩ ?_ ?_
    · rintro K2 dn y rest2 acc ρ eds2 ⟨n', y3, rfl, hn', rfl⟩ hK2
      obtain ⟨rfl, hlt2⟩ := intsD_at eds2
      have e4 : (6 : Int).toNat = 6 := rfl
      rw [e4] at hlt2
      refine ⟨ltR rfl, ⟨_, rfl⟩, rfl, p, n', rfl, by omega, fun n2 hn2 => ⟨_, rfl, opt_ok rfl (hK2 _ _ ⟨n2, _, ?_, ?_, rfl⟩)⟩⟩
      · rw [List.length_append, List.length_cons, List.length_nil, List.replicate_succ']
      · rw [List.length_append, List.length_cons, List.length_nil]; omega
    · rintro acc ρ ⟨n', y3, rfl, hn', rfl⟩
      exact hK _ ⟨_, _, _, rfl⟩
  · rintro ρ ⟨x1, x2, x3, rfl⟩
    exact ⟨rfl, rfl, hR⟩
end
end QL
set_option Elab.async false
set_option linter.all false
set_option maxRecDepth 100000
set_option maxHeartbeats 2000000
namespace Hd
open PySem PySem.Spec PyProof.Rows L2 He
open PySem.W (Frag nsIn findIn kitOne)
theorem spec_ok {K : Frag} {x m : Str} (h : cSpec x m K = true) : Spec1 K (ga K x) m (pm x m K) := ⟨eqO_ok (ba h).1, (ba h).2⟩
theorem stat_ok {K : Frag} {x m : Str} (h : cStat x m K = true) : SMet K (ga K x) (.type "type") m (pm x m K) (ps x m K) := by
  obtain ⟨h1, h⟩ := ba h
  obtain ⟨h2, h3⟩ := ba h
  refine ⟨?_, rec_is h2, h3⟩
  split at h1
  · rename_i b p C e
    obtain ⟨a1, a⟩ := ba h1
    obtain ⟨a2, a3⟩ := ba a
    rw [e, of_decide_eq_true a1, of_decide_eq_true a2, of_decide_eq_true a3]
    rfl
  · cases h1
end Hd
set_option Elab.async false
set_option linter.all false
set_option maxRecDepth 100000
set_option maxHeartbeats 2000000
namespace Hd
open PySem PySem.Spec PyProof.Rows L2 He PySem.XS
open PySem.W (Frag nsIn findIn kitOne clsIn subIn hasDictIn specialIn takesIn mroIn keepIn typeIn excInitIn excOver ks_superIn ksFn codeIn)
/-! ### exceptions -/
theorem ecls_of {K : Frag} {C : Addr} (h : eclsB K C = true) : ECls K C := by
  unfold eclsB at h
  simp only [Bool.and_eq_true, beq_iff_eq] at h
  obtain ⟨⟨⟨⟨⟨⟨⟨⟨⟨h1, h2⟩, h3⟩, h4⟩, h5⟩, h6⟩, h7⟩, h8⟩, h9⟩, h10⟩ := h
  exact ⟨h1, h2, h3, h4, h5, h6, h7, h8, h9, h10⟩
/-- .. the text too -/
structure InitTxt (st : Stmt) (f : Str) : Prop where
  ex : ∃ p1 p2 q1 q2 q3 q4 q5 q6 q7 q8 q9 q10, defArgs st = iA f p1 p2 ∧ defBody st = iB f q1 q2 q3 q4 q5 q6 q7 q8 q9 q10 ∧ defScope st = iS f ∧ (q3.endLine == q5.line) = true
theorem et_of {P : Program} {K : Frag} {mg : Str → Option Value} {B newId initId : String} {C : Addr} {f : Str} {d : DefC} (hn : B ++ ".__new__" = newId) (hi : B ++ ".__init__" = initId) (b : etB K B C (d.at_ K) f = true) (S : SupF K d (d.at_ K) C) (nm : d.name = "__init__") (T : InitTxt d.st f) (fl : ((P.main.file : Str) == d.file) = true)
    (opq : nsIn K cStatics "thirdparty.any" = some none) (gs : mg "super" = none) (top : (P.main.scope.names.lookup ("super" : Str)).isSome = false) : ETxt P K mg B newId initId (tailOf B) C (d.at_ K) f := by
  unfold etB at b
  simp only [Bool.and_eq_true, beq_iff_eq] at b
  obtain ⟨⟨⟨⟨⟨⟨⟨⟨⟨b1, b2⟩, b3⟩, b4⟩, b5⟩, b6⟩, b7⟩, b8⟩, b9⟩, b10⟩ := b
  subst hn hi
  obtain ⟨oc, od, kV, doc, pm, an, cda, ct, cc, osl, ccl, cdd, vs, ccs, tf, cl, cld, csl, g1, g2, g3, g4, g5⟩ := S.ex
  obtain ⟨p1, p2, q1, q2, q3, q4, q5, q6, q7, q8, q9, q10, t1, t2, t3, t4⟩ := T.ex
  rw [t1, t2, t3, nm] at g1
  exact ⟨b1, b2, b3, b4, b5, b9, b10, ⟨d.qual, oc, od, kV, doc, pm, an, cda, ct, cc, osl, p1, p2, q1, q2, q3, q4, q5, q6, q7, q8, q9, q10, ccl, cdd, vs, ccs, d.file, tf, cl, cld, csl, g1, g2, g3, g4, fl, g5, t4⟩, b6, b7, b8, opq, gs, top⟩
theorem makes_of {P : Program} {w : World} {K : Frag} {mg : Str → Option Value} {C : Addr} {f : Str} {B : String} {d : DefC} (hB : B = "ValueError" ∨ B = "LookupError" ∨ B = "RuntimeError" ∨ B = "ArithmeticError") (hf : f = "value" ∨ f = "index" ∨ f = "limit")
    (b : etB K B C (d.at_ K) f = true) (S : SupF K d (d.at_ K) C) (nm : d.name = "__init__") (T : InitTxt d.st f) (fl : ((P.main.file : Str) == d.file) = true)
    (opq : nsIn K cStatics "thirdparty.any" = some none) (gs : mg "super" = none) (top : (P.main.scope.names.lookup ("super" : Str)).isSome = false) : Makes P w K mg C f (fun v => ⟨[v], []⟩) := by
  rcases hB with rfl | rfl | rfl | rfl
  · have T := et_of (newId := "ValueError.__new__") (initId := "ValueError.__init__") (mg := mg) rfl rfl b S nm T fl opq gs top
    rcases hf with rfl | rfl | rfl
    · exact fun A s mb v R a1 a2 a3 a4 a5 a6 a7 => made_value PySem.F.excBase_ValueError PySem.W.kxs_ValueError PySem.F.store_ValueError T a1 a2 a3 a4 a5 a6 a7
    · exact fun A s mb v R a1 a2 a3 a4 a5 a6 a7 => made_index PySem.F.excBase_ValueError PySem.W.kxs_ValueError PySem.F.store_ValueError T a1 a2 a3 a4 a5 a6 a7
    · exact fun A s mb v R a1 a2 a3 a4 a5 a6 a7 => made_limit PySem.F.excBase_ValueError PySem.W.kxs_ValueError PySem.F.store_ValueError T a1 a2 a3 a4 a5 a6 a7
  · have T := et_of (newId := "LookupError.__new__") (initId := "LookupError.__init__") (mg := mg) rfl rfl b S nm T fl opq gs top
    rcases hf with rfl | rfl | rfl
    · exact fun A s mb v R a1 a2 a3 a4 a5 a6 a7 => made_value PySem.F.excBase_LookupError PySem.W.kxs_LookupError PySem.F.store_LookupError T a1 a2 a3 a4 a5 a6 a7
    · exact fun A s mb v R a1 a2 a3 a4 a5 a6 a7 => made_index PySem.F.excBase_LookupError PySem.W.kxs_LookupError PySem.F.store_LookupError T a1 a2 a3 a4 a5 a6 a7
    · exact fun A s mb v R a1 a2 a3 a4 a5 a6 a7 => made_limit PySem.F.excBase_LookupError PySem.W.kxs_LookupError PySem.F.store_LookupError T a1 a2 a3 a4 a5 a6 a7
  · have T := et_of (newId := "RuntimeError.__new__") (initId := "RuntimeError.__init__") (mg := mg) rfl rfl b S nm T fl opq gs top
    rcases hf with rfl | rfl | rfl
    · exact fun A s mb v R a1 a2 a3 a4 a5 a6 a7 => made_value PySem.F.excBase_RuntimeError PySem.W.kxs_RuntimeError PySem.F.store_RuntimeError T a1 a2 a3 a4 a5 a6 a7
    · exact fun A s mb v R a1 a2 a3 a4 a5 a6 a7 => made_index PySem.F.excBase_RuntimeError PySem.W.kxs_RuntimeError PySem.F.store_RuntimeError T a1 a2 a3 a4 a5 a6 a7
    · exact fun A s mb v R a1 a2 a3 a4 a5 a6 a7 => made_limit PySem.F.excBase_RuntimeError PySem.W.kxs_RuntimeError PySem.F.store_RuntimeError T a1 a2 a3 a4 a5 a6 a7
  · have T := et_of (newId := "ArithmeticError.__new__") (initId := "ArithmeticError.__init__") (mg := mg) rfl rfl b S nm T fl opq gs top
    rcases hf with rfl | rfl | rfl
    · exact fun A s mb v R a1 a2 a3 a4 a5 a6 a7 => made_value PySem.F.excBase_ArithmeticError PySem.W.kxs_ArithmeticError PySem.F.store_ArithmeticError T a1 a2 a3 a4 a5 a6 a7
    · exact fun A s mb v R a1 a2 a3 a4 a5 a6 a7 => made_index PySem.F.excBase_ArithmeticError PySem.W.kxs_ArithmeticError PySem.F.store_ArithmeticError T a1 a2 a3 a4 a5 a6 a7
    · exact fun A s mb v R a1 a2 a3 a4 a5 a6 a7 => made_limit PySem.F.excBase_ArithmeticError PySem.W.kxs_ArithmeticError PySem.F.store_ArithmeticError T a1 a2 a3 a4 a5 a6 a7
end Hd
set_option Elab.async false
set_option linter.all false
set_option maxRecDepth 100000
set_option maxHeartbeats 4000000
namespace QL
open PySem L2 He PySem.XS
open PySem.W (Frag nsIn findIn kitOne keepIn typeIn exmAny)
/-! ### the end of a law: what the head tells, as the pure layer wants it -/
def caOf (K : Frag) (cls : List Str) (c : Nat) : Addr := if c < 22 then ga K (xsn c) else ga K (cls.getD (c - 22) (cls.headD ""))
def gwOf (K : Frag) (cls : List Str) (T : List (Addr × Str)) : Gw := ⟨⟨K, caOf K cls, T⟩, xfN⟩
theorem xtS_lt {i c : Nat} {b : Bool} (h : xtS i c = some b) : c < 18 := by
  unfold xtS at h
  split at h
  · assumption
  · cases h
theorem xtB_lt {i c : Nat} {b : Bool} (h : xtB i c = some b) : c < 18 := by
  unfold xtB at h
  split at h
  · assumption
  · cases h
section
variable {K : Frag} {h : Heap} {mg : Str → Option Value} {cls : List Str} {T : List (Addr × Str)}
theorem ca_lt {c : Nat} (hc : c < 22) : caOf K cls c = ga K (xsn c) := if_pos hc
theorem errK_of (X : K.In h) (G : h.Ns mainGlobals mg) (c1 : cErr1 K = true) (c2 : cErr2 K = true) (c3 : cErr3 K = true) (c4 : cErr4 K = true) (c5 : cErr5 K = true) (c6 : cErr6 K = true)
    (f1 : mg "ValueError" = none) (f2 : mg "LookupError" = none) (f3 : mg "RuntimeError" = none) (f4 : mg "ArithmeticError" = none) : ErrK (gwOf K cls T) mg := by
  have ec : ∀ c, c < 18 → ECls K (caOf K cls c) := fun c hc => by
    rw [ca_lt (by omega)]
    exact Hd.ecls_of (range_at c2 c hc)
  have nf : ∀ c f, c < 17 → xfN c = some f → findIn K (.ref (caOf K cls c)) f = some none := fun c f hc hf => by
    have := range_at c6 c hc
    rw [hf] at this
    rw [ca_lt (by omega)]
    exact eqO_ok this
  refine ⟨fun i hi => ?_, fun i hi => ⟨fun c b hb => ?_⟩, f1, f2, f3, f4, fun j hj => ⟨fun c b hb => ?_⟩, fun c hc => ?_, fun c hc => ?_, fun c hc => ?_, fun c hc => ?_, fun c hc => rfl⟩
  · show mg (xsn i) = some (.ref (caOf K cls i))
    rw [ca_lt hi]
    exact PySem.W.mg_of X G (eqO_ok (range_at c1 i hi))
  · have hc := xtS_lt hb
    refine ⟨ec c hc, ?_⟩
    show kitOne K (.ref (caOf K cls c)) (.ref (caOf K cls i)) = some b
    rw [ca_lt (show c < 22 by omega), ca_lt hi, ← hb]
    exact of_decide_eq_true (range_at (range_at c3 c hc) i hi)
  · have hc := xtB_lt hb
    refine ⟨ec c hc, ?_⟩
    show kitOne K (.ref (caOf K cls c)) (.type (bsn j)) = some b
    rw [ca_lt (show c < 22 by omega), ← hb]
    exact of_decide_eq_true (range_at (range_at c4 c hc) j hj)
  · show exmAny K (.ref (caOf K cls c)) [.ref (caOf K cls 18), .ref (caOf K cls 19), .ref (caOf K cls 20), .ref (caOf K cls 21)] = some true
    rw [ca_lt (show c < 22 by omega), ca_lt (show 18 < 22 by omega), ca_lt (show 19 < 22 by omega), ca_lt (show 20 < 22 by omega), ca_lt (show 21 < 22 by omega)]
    exact of_decide_eq_true (range_at c5 c hc)
  · have z : ∀ c ∈ [13, 14, 15], c < 17 ∧ xfN c = some "index" := by decide +kernel
    exact ⟨ec c (by have := (z c hc).1; omega), nf c _ (z c hc).1 (z c hc).2⟩
  · have z : ∀ c ∈ [16], c < 17 ∧ xfN c = some "limit" := by decide +kernel
    exact ⟨ec c (by have := (z c hc).1; omega), nf c _ (z c hc).1 (z c hc).2⟩
  · have z : ∀ c ∈ [0, 1, 2, 3, 4, 5, 6, 7, 8, 9, 10, 11, 12], c < 17 ∧ xfN c = some "value" := by decide +kernel
    exact ⟨ec c (by have := (z c hc).1; omega), nf c _ (z c hc).1 (z c hc).2⟩
/-! ### isinstance -/
theorem ca_mem (hc : cls ≠ []) {c : Nat} (h : 22 ≤ c) : ∃ x ∈ cls, caOf K cls c = ga K x := by
  unfold caOf
  rw [if_neg (by omega)]
  by_cases hl : c - 22 < cls.length
  · exact ⟨cls[c - 22], List.getElem_mem hl, by rw [List.getD_eq_getElem?_getD, List.getElem?_eq_getElem hl]; rfl⟩
  · obtain ⟨x, r, rfl⟩ := List.exists_cons_of_ne_nil hc
    exact ⟨x, List.mem_cons_self, by rw [List.getD_eq_getElem?_getD, List.getElem?_eq_none (by omega)]; rfl⟩
theorem cty_of {x : Str} (h1 : (Fa.cls x).ok K = true) (h2 : Hd.cIs x K = true) : CTy K (ga K x) := by
  obtain ⟨i1, cI⟩ := ba h2
  obtain ⟨i2, cI⟩ := ba cI
  obtain ⟨i3, i4⟩ := ba cI
  exact ⟨cls_ok h1, eqO_ok i1, eqO_ok i2, of_decide_eq_true i3, of_decide_eq_true i4⟩
theorem isi_of (hc : cls ≠ []) (c1 : cIsi1 K = true) (c2 : cIsi2 cls K = true) {t : String} (ht : t ∈ tyT) : IsiOk (gwOf K cls T).W (.type t) (kbT t) (ciT 0) := by
  refine ⟨fun s b hb => ?_, fun c b hb => ?_⟩
  · have hs : s ∈ tys := by
      unfold kbT at hb
      split at hb
      · assumption
      · cases hb
    rw [← hb]
    exact of_decide_eq_true (alls_at (alls_at c1 ht) hs)
  · unfold ciT at hb
    split at hb
    · rename_i h22
      obtain ⟨x, hx, ex⟩ := ca_mem (K := K) hc h22.1
      obtain ⟨a1, a⟩ := ba (alls_at c2 hx)
      obtain ⟨a2, a3⟩ := ba a
      have eb : b = false := by
        cases hb
        exact beq_eq_false_iff_ne.mpr (by omega)
      subst eb
      show CTy K (caOf K cls c) ∧ kitOne K (.ref (caOf K cls c)) (.type t) = some false
      rw [ex]
      exact ⟨cty_of a1 a2, of_decide_eq_true (alls_at a3 ht)⟩
    · cases hb
theorem isiK_of (hc : cls ≠ []) (c1 : cIsi1 K = true) (c2 : cIsi2 cls K = true) : IsiK (gwOf K cls T) := ⟨isi_of hc c1 c2 (by decide), isi_of hc c1 c2 (by decide), isi_of hc c1 c2 (by decide), isi_of hc c1 c2 (by decide), isi_of hc c1 c2 (by decide)⟩
/-! ### exceptions that are raised -/
theorem excOk_of {P : Program} {w : World} {d : Hd.DefC} (X : K.In h) (G : h.Ns mainGlobals mg) (c1 : cErr1 K = true) (c2 : cErr2 K = true) (c7 : cErr7 K = true) (i : Nat) {f : Str} (hi : i < 17) (hx : xfN i = some f) (b : Hd.etB K (bsn (basN i)) (ga K (xsn i)) (d.at_ K) f = true) (S : Hd.SupF K d (d.at_ K) (ga K (xsn i))) (nm : d.name = "__init__") (Tx : Hd.InitTxt d.st f) (fl : ((P.main.file : Str) == d.file) = true)
    (opq : nsIn K cStatics "thirdparty.any" = some none) (gs : mg "super" = none) (top : (P.main.scope.names.lookup ("super" : Str)).isSome = false) : ExcOk (gwOf K cls T) P w mg i (xsn i) f := by
  have e := ca_lt (K := K) (cls := cls) (show i < 22 by omega)
  have ec := Hd.ecls_of (range_at c2 i (by omega))
  have f3 : ∀ i, i < 17 → ∀ f, xfN i = some f → (f = "value" ∨ f = "index" ∨ f = "limit") := by
    intro i hi f hf
    unfold xfN at hf
    split at hf
    · cases hf
    · split at hf
      · cases hf; exact .inr (.inr rfl)
      · split at hf
        · cases hf; exact .inr (.inl rfl)
        · cases hf; exact .inl rfl
  have p4 : ∀ i, i < 17 → (bsn (basN i) = "ValueError" ∨ bsn (basN i) = "LookupError" ∨ bsn (basN i) = "RuntimeError" ∨ bsn (basN i) = "ArithmeticError") := by decide +kernel
  refine ⟨?_, ?_, ?_, ?_, ?_, hx⟩
  · show Makes P w K mg (caOf K cls i) f _
    rw [e]
    exact Hd.makes_of (p4 i hi) (f3 i hi f hx) b S nm Tx fl opq gs top
  · show mg (xsn i) = some (.ref (caOf K cls i))
    rw [e]
    exact PySem.W.mg_of X G (eqO_ok (range_at c1 i (by omega)))
  · show keepIn K (.ref (caOf K cls i)) = true
    rw [e]
    exact ec.kC
  · show PySem.W.subIn K (.ref (caOf K cls i)) _ = _
    rw [e]
    exact ec.exC
  · show typeIn K (.ref (caOf K cls i)) = _
    rw [e]
    exact of_decide_eq_true (range_at c7 i (by omega))
/-! ### lambdas -/
theorem lamAt_of {base : Heap} {tf : List ((Frag → Addr) × Str)} {x qual : Str} {st : Stmt} {at_ : Frag → Addr} {fd : FuncData} (F : Fun K x qual st (at_ K) fd) (hm : (at_, qual) ∈ tf) (c : cTabs tf K = true) (hT : LamX.TabB base mg (Hd.cTab K (at_ K)).1 (Hd.cTab K (at_ K)).2) :
    LamAt (gwOf K cls (tabT K tf)) base mg (qual ++ ".<locals>.") fd.code := by
  obtain ⟨oc, od, kV, doc, pm, an, cdv, ct, osl, rfl, lk, hcd⟩ := F.ex
  obtain ⟨c0, ec⟩ := codeIn_ref hcd
  subst ec
  have e0 : Hd.codeAt K (at_ K) = c0 := by
    unfold Hd.codeAt
    rw [lk]
  have mem : ((Hd.cTab K (at_ K)).2, qual ++ ".<locals>." ++ "<lambda>") ∈ tabT K tf := List.mem_map.mpr ⟨_, hm, rfl⟩
  refine ⟨c0, (Hd.cTab K (at_ K)).2, ?_, rfl, mem, fun p hp ep => ?_⟩
  · have : (Hd.cTab K (at_ K)).1 = c0 := e0
    rw [this] at hT
    exact hT
  · have z := alls_at (alls_at c hp) mem
    rw [Bool.or_eq_true] at z
    rcases z with z | z
    · have z2 : decide (p.1 = (Hd.cTab K (at_ K)).2) = false := by simpa using z
      exact absurd ep (of_decide_eq_false z2)
    · exact of_decide_eq_true z
/-! ### the call of the law -/
theorem pre_law {G : Gw} {sp : PSp} {H : Hp} {a : Addr} {ns : List Int} (tb : ∀ p ∈ G.W.T, H p.1 = some (.tbl #[])) (hS : SqL G.W.K H a (ns.map V.int)) (h : sp [.d (.scr ns)] (fun s _ => s = .d (.bl true)) (fun _ => False)) : toSp G 1 sp [.ref a] H (fun v _ => v = .bl true) fun _ _ _ => False := by
  refine ⟨[.d (.scr ns)], [], fun s _ => s = .d (.bl true), fun _ => False, rfl, rfl, ⟨List.nodup_nil, fun p hp => ?_, fun p hp => ?_, fun b hb => by cases hb⟩, h, fun v s B H' hh hs => ?_, fun _ _ _ _ _ z => z.elim⟩
  · have ep : p = (V.ref a, S.d (.scr ns)) := by simpa using hp
    subst ep
    refine At.scr ?_
    rcases hS with (q | ⟨o, q⟩) | q
    · exact .inl ⟨q, by simp [owns, own1]⟩
    · exact .inr (.inl ⟨o, q, by simp [owns, own1]⟩)
    · exact .inr (.inr fun H' => .inr q)
  · refine ⟨#[], tb p hp, ?_⟩
    exact ⟨trivial, fun pos cv hc => by cases hc⟩
  · subst hs
    have z : At G.W H' _ v (.bl true) := hh.head
    cases z
    rfl
end
end QL
set_option Elab.async false
set_option linter.all false
set_option maxRecDepth 100000
set_option maxHeartbeats 2000000
namespace L2
open PySem PySem.Spec PyProof.Rows
abbrev tab0 : Obj := { cls := .none, data := .fields #[] }
abbrev lstO (vs : List Value) : Obj := { cls := .type "list", data := .seq vs.toArray }
/-! ### the law's own call: tables of code objects, and its guards known -/
theorem core_T {P : Program} {w : World} {K : PySem.W.Frag} {mg mb : Str → Option Value} {CX : CXT} {k : Nat} {fa a : Addr} {tbs : List (Addr × Addr)} {fd : FuncData} {x : Str} {sp : Sp} {s1 : Shared} {vs : List Value}
    (kin : K.In s1.heap) (glo : s1.heap.Ns mainGlobals mg) (blt : s1.heap.Ns builtinsNs mb) (bb : ∀ y : Str, y ≠ "__name__" → mb y = bootBuiltins y) (lim : s1.heap.NoLimit) (gens : s1.gens = #[])
    (tE : ∀ t ∈ tbs, s1.heap.get? t.2 = some tab0) (tK : ∀ t ∈ tbs, K.lookup t.2 = none) (tC : ∀ t ∈ tbs, PySem.W.CodeHd s1.heap t.1 t.2)
    (bmod : ∃ (m : Addr) (om : Obj), mg "__builtins__" = some (.ref m) ∧ m ≠ builtinsNs ∧ s1.heap.get? m = some om ∧ om.cls = .type "module" ∧ om.dict = some builtinsNs ∧ om.data = .plain)
    (at_a : s1.heap.get? a = some (lstO vs)) (room : Room k callerA)
    (F : ∀ base : Heap, K.In base → base.Ns mainGlobals mg → (∀ t ∈ tbs, LamX.TabB base mg t.1 t.2) → FnOkG P w K mg base CX k fa fd [x] sp) (bnd : ∀ (s : Shared) (u : Value), BindsTo s fd ⟨[u], []⟩ [(x, u)])
    (noX : ∀ H e s', CX [] H s1 (fun _ _ _ => False) e s' → False)
    (H : Hp) (tH : ∀ t ∈ tbs, H t.2 = some (.tbl #[])) (kinds : ∀ b, H b = none ∨ (∃ t ∈ tbs, t.2 = b) ∨ (b = a ∧ ∃ ob xs, H b = some (.frz ob (.lst xs)))) (hok : HOk P w H s1.heap) (unK : H a ≠ none → K.lookup a = none) (pre : sp [.ref a] H (fun v _ => v = .bl true) fun _ _ _ => False) :
    codeAny (model P w) callerA (.call (.ref fa) ⟨[.ref a], []⟩) (fun r s' => r = .ok (.ret (.bool true)) ∧ OldK s1.heap s'.heap ∧ s'.os = s1.os ∧ AllBare s'.gens) s1 := by
  have kept : ∀ {b : Addr} {o : Obj}, s1.heap.get? b = some o → H b = none → (hidT s1.heap H).get? b = some o := fun p q => hidT_get p q
  -- what is neither a list nor an empty table is not tracked
  have freeO : ∀ {b : Addr} {o : Obj}, s1.heap.get? b = some o → (o.data = .fields #[] → False) → ((∃ us n, o.data = .seq us n) → False) → H b = none := by
    intro b o p n1 n2
    rcases kinds b with z | ⟨t, ht, rfl⟩ | ⟨rfl, _⟩
    · exact z
    · rw [tE t ht] at p
      cases p
      exact (n1 rfl).elim
    · rw [at_a] at p
      cases p
      exact (n2 ⟨_, _, rfl⟩).elim
  have nsOf : ∀ {b : Addr} {m : Str → Option Value}, s1.heap.Ns b m → (hidT s1.heap H).Ns b m := by
    rintro b m ⟨o, es, ep, p, q, r⟩
    exact ⟨o, es, ep, kept p (freeO p (fun z => by rw [q] at z; cases z) fun ⟨us, n, z⟩ => by rw [q] at z; cases z), q, r⟩
  have kinB : K.In (hidT s1.heap H) := by
    intro b o p
    refine kept (kin b o p) ?_
    rcases kinds b with z | ⟨t, ht, rfl⟩ | ⟨rfl, ob, xs, z⟩
    · exact z
    · rw [tK t ht] at p
      cases p
    · rw [unK (by rw [z]; simp)] at p
      cases p
  obtain ⟨mc, c1, c2⟩ := lim
  have m0 : Mod K mg (hidT s1.heap H) := ⟨kinB, nsOf glo, ⟨mb, nsOf blt, bb⟩, ⟨mc, nsOf c1, c2⟩⟩
  have noFr : ∀ b : Addr, b ∉ frs [] := fun b hb => by cases hb
  have e0 : Env0 P w K mg (hidT s1.heap H) callerA [] s1 H := ⟨rfl, m0, fun b o p => of_hidT p, Nat.le_of_eq (hidT_size _ _), trivial, fun b hb => (noFr b hb).elim, hok, .of_eq gens⟩
  have tabB : ∀ t ∈ tbs, LamX.TabB (hidT s1.heap H) mg t.1 t.2 := by
    intro t ht
    obtain ⟨o, us, fi, tf, fl, tg, inF, tx, tt, p, r1, r2, r3, r4, r5, r6, r7, r8, r9⟩ := tC t ht
    obtain ⟨m, om, b1, b2, b3, b4, b5, b6⟩ := bmod
    obtain ⟨og, es, ep, pg, qg, _⟩ := glo
    refine ⟨⟨o, us, fi, tf, fl, tg, inF, tx, tt, kept p (freeO p (fun z => ?_) fun ⟨us', n, z⟩ => ?_), r1, r2, r3, r4, r5, r6, r7, r8, r9⟩, ⟨m, om, b1, b2, fun z => ?_, fun z => ?_, kept b3 (freeO b3 (fun z => ?_) fun ⟨us', n, z⟩ => ?_), b4, b5, b6⟩, fun z => ?_⟩
    · rw [r2] at z
      cases z
      simp at r3
    · rw [r2] at z
      cases z
    · rw [z, pg] at b3
      cases b3
      rw [qg] at b6
      cases b6
    · rw [z, tE t ht] at b3
      cases b3
      cases b6
    · rw [b6] at z
      cases z
    · rw [b6] at z
      cases z
    · rw [z, tE t ht] at pg
      cases pg
      cases qg
  apply codeAny_mono ((F _ kinB (nsOf glo) tabB).run callerA [] s1 H ⟨[.ref a], []⟩ [.ref a] [.ref a] _ _ room rfl e0 (bnd s1 (.ref a)) (.cons rfl .nil) pre)
  intro r s' z
  match r, z with
  | .error e, z => exact (noX H e s' z).elim
  | .ok .next, z => cases z
  | .ok .brk, z => cases z
  | .ok .cont, z => cases z
  | .ok (.ret u), z =>
    obtain ⟨v, H', os, bare, un, hok', rv, q⟩ := z
    cases (show v = .bl true from q)
    obtain rfl : u = Value.bool true := rv
    -- a table grows, all else stays
    have ends : ∀ b o, s1.heap.get? b = some o → s'.heap.get? b = some o ∨ ∃ t ∈ tbs, t.2 = b ∧ o = tab0 ∧ ∃ us : Array Value, s'.heap.get? b = some { cls := .none, data := .fields us } := by
      intro b o p
      rcases kinds b with y | ⟨t, ht, rfl⟩ | ⟨rfl, ob, xs, y⟩
      · exact .inl (un.keep b o p y (fun hb => noFr b hb) (by simp))
      · obtain ⟨us, y⟩ := un.tbls t.2 #[] (tH t ht)
        rw [tE t ht] at p
        cases p
        exact .inr ⟨t, ht, rfl, rfl, _, hok' t.2 _ y⟩
      · obtain ⟨p1, _⟩ := hok b _ y
        obtain ⟨p2, _⟩ := hok' b _ (un.frzs b ob _ y)
        rw [p] at p1
        cases p1
        exact .inl p2
    refine ⟨rfl, ⟨fun b o p => ?_, fun b o p => ?_⟩, os, bare⟩
    · rcases ends b o p with y | ⟨t, ht, rfl, rfl, us, y⟩
      · exact .inl y
      · exact .inr (.inl ⟨((tC t ht).tab (tE t ht)).isCodeTable, rfl, #[], us, rfl, by rw [Array.empty_append]; exact y⟩)
    · rcases ends b o p with y | ⟨t, ht, rfl, rfl, us, y⟩
      · exact ⟨o, y⟩
      · exact ⟨_, y⟩
theorem law_callT {P : Program} {w : World} {K : PySem.W.Frag} {mg mb : Str → Option Value} {CX : CXT} {k : Nat} {fa a : Addr} {tbs : List (Addr × Addr)} {fd : FuncData} {x : Str} {sp : Sp} {s1 : Shared} {vs : List Value} {ns : List Int}
    (kin : K.In s1.heap) (glo : s1.heap.Ns mainGlobals mg) (blt : s1.heap.Ns builtinsNs mb) (bb : ∀ y : Str, y ≠ "__name__" → mb y = bootBuiltins y) (lim : s1.heap.NoLimit) (gens : s1.gens = #[])
    (tE : ∀ t ∈ tbs, s1.heap.get? t.2 = some tab0) (tK : ∀ t ∈ tbs, K.lookup t.2 = none) (tC : ∀ t ∈ tbs, PySem.W.CodeHd s1.heap t.1 t.2)
    (bmod : ∃ (m : Addr) (om : Obj), mg "__builtins__" = some (.ref m) ∧ m ≠ builtinsNs ∧ s1.heap.get? m = some om ∧ om.cls = .type "module" ∧ om.dict = some builtinsNs ∧ om.data = .plain)
    (at_a : s1.heap.get? a = some (lstO vs)) (hin : IntsAre vs ns) (hl : ns.length ≤ sizeLine) (room : Room k callerA)
    (F : ∀ base : Heap, K.In base → base.Ns mainGlobals mg → (∀ t ∈ tbs, LamX.TabB base mg t.1 t.2) → FnOkG P w K mg base CX k fa fd [x] sp) (bnd : ∀ (s : Shared) (u : Value), BindsTo s fd ⟨[u], []⟩ [(x, u)])
    (hsp : ∀ H : Hp, (∀ t ∈ tbs, H t.2 = some (.tbl #[])) → SqL K H a (ns.map V.int) → sp [.ref a] H (fun v _ => v = .bl true) fun _ _ _ => False) (noX : ∀ H e s', CX [] H s1 (fun _ _ _ => False) e s' → False) :
    codeAny (model P w) callerA (.call (.ref fa) ⟨[.ref a], []⟩) (fun r s' => r = .ok (.ret (.bool true)) ∧ OldK s1.heap s'.heap ∧ s'.os = s1.os ∧ AllBare s'.gens) s1 := by
  have rv := vals_ints hin
  have lenV := hin.length
  have sepT : ∀ t ∈ tbs, t.2 ≠ a := fun t ht z => by
    have p := tE t ht
    rw [z, at_a] at p
    cases p
  -- the tables, and at the script what is said
  let Hs : Option HO → Hp := fun u b => if (tbs.any fun t => t.2 == b) = true then some (.tbl #[]) else if b = a then u else none
  have anyT : ∀ {b : Addr}, (tbs.any fun t => t.2 == b) = true → ∃ t ∈ tbs, t.2 = b := fun h => by
    obtain ⟨t, ht, e⟩ := List.any_eq_true.mp h
    exact ⟨t, ht, eq_of_beq e⟩
  have tH : ∀ u, ∀ t ∈ tbs, Hs u t.2 = some (.tbl #[]) := fun u t ht => by
    have y : (tbs.any fun t' => t'.2 == t.2) = true := List.any_eq_true.mpr ⟨t, ht, beq_self_eq_true t.2⟩
    show (if _ then _ else _) = _
    rw [if_pos y]
  have aH : ∀ u, Hs u a = u := fun u => by
    have n : ¬ (tbs.any fun t => t.2 == a) = true := fun z => by
      obtain ⟨t, ht, e⟩ := anyT z
      exact sepT t ht e
    show (if _ then _ else _) = _
    rw [if_neg n, if_pos rfl]
  have other : ∀ u b, Hs u b = none ∨ (∃ t ∈ tbs, t.2 = b) ∨ (b = a ∧ Hs u b = u) := fun u b => by
    by_cases h1 : (tbs.any fun t => t.2 == b) = true
    · exact .inr (.inl (anyT h1))
    · by_cases h2 : b = a
      · exact .inr (.inr ⟨h2, by rw [h2]; exact aH u⟩)
      · exact .inl ((if_neg h1).trans (if_neg h2))
  have okT : ∀ u, (∀ ho, u = some ho → ObjOk P w (Hs u) s1.heap a ho) → HOk P w (Hs u) s1.heap := fun u hu b ho z => by
    rcases other u b with y | ⟨t, ht, rfl⟩ | ⟨y, y2⟩
    · rw [y] at z
      cases z
    · rw [tH u t ht] at z
      cases z
      exact tE t ht
    · rw [y2] at z
      rw [y]
      exact hu ho z
  cases hk : K.lookup a with
  | some o =>
    have p := kin a o hk
    rw [at_a] at p
    cases p
    refine core_T kin glo blt bb lim gens tE tK tC bmod at_a room F bnd noX (Hs none) (tH none) (fun b => ?_) (okT none fun ho z => by cases z) (fun z => absurd (aH none) z) (hsp _ (tH none) ?_)
    · rcases other none b with y | y | ⟨_, y⟩
      · exact .inl y
      · exact .inr (.inl y)
      · exact .inl y
    · exact .inr ⟨_, vs.toArray, _, hk, rfl, rfl, rfl, by rw [List.size_toArray, lenV]; exact hl, by simpa using rv⟩
  | none =>
    let fz : HO := .frz (lstO vs) (.lst (ns.map V.int))
    refine core_T kin glo blt bb lim gens tE tK tC bmod at_a room F bnd noX (Hs (some fz)) (tH _) (fun b => ?_) (okT _ fun ho z => ?_) (fun _ => hk) (hsp _ (tH _) (.inl (.inr ⟨lstO vs, aH _⟩)))
    · rcases other (some fz) b with y | y | ⟨y, y2⟩
      · exact .inl y
      · exact .inr (.inl y)
      · exact .inr (.inr ⟨y, _, _, y2⟩)
    · cases z
      exact ⟨at_a, by rw [List.length_map]; exact hl, vs, _, rv, at_a⟩
/-- the end of a law row -/
theorem walk_ofT {l : PySem.W.OpenLaw} {n k : Nat} {q : Program} {loose : List Str} {XP : (Str → Option Value) → Heap → Prop} {YP : World → Heap → Prop} {d : DefRec} {CX : World → CXT} {x : Str}
    (hn : l.most = some n) (hn2 : n ≤ sizeLine) (hdf : d.params.defaults = []) (hr : Room k callerA)
    (F : ∀ (w : World) (mg : Str → Option Value) (fa : Addr) (h : Heap), YP w h → h.Ns mainGlobals mg → mg d.name = some (.ref fa) → ∃ K : PySem.W.Frag, K.In h ∧ ∃ (fd : FuncData) (tbs : List (Addr × Addr)) (sp : Sp), (∀ t ∈ tbs, h.get? t.2 = some tab0) ∧ (∀ t ∈ tbs, K.lookup t.2 = none) ∧ (∀ t ∈ tbs, PySem.W.CodeHd h t.1 t.2) ∧ (∀ (s : Shared) (v : Value), BindsTo s fd ⟨[v], []⟩ [(x, v)]) ∧
      (∀ (H : Hp) (a : Addr) (ns : List Int), ns.length ≤ n → (∀ t ∈ tbs, H t.2 = some (.tbl #[])) → SqL K H a (ns.map V.int) → sp [.ref a] H (fun v _ => v = .bl true) fun _ _ _ => False) ∧ ∀ base : Heap, K.In base → base.Ns mainGlobals mg → (∀ t ∈ tbs, LamX.TabB base mg t.1 t.2) → FnOkG l.prog w K mg base (CX w) k fa fd [x] sp)
    (hCX : ∀ (w : World) (H : Hp) (s : Shared) (e : Value) (s' : Shared), CX w [] H s (fun _ _ _ => False) e s' → False) :
    PySem.W.WalkO q loose XP YP l.row.toRowW d [] (fun f vs => PySem.call f vs) := by
  refine Att.attach_callB hn hdf fun w s0 s1 mg mb fa o pm cd doc a vs ns G Y ho hd hcd hmg hobj hints hlen hbits hg => ?_
  obtain ⟨K, KX, fd, tbs, sp, h1, h2, h3, hb, hsp, hF⟩ := F w mg fa _ Y G.T.g hmg
  exact law_callT KX G.T.g G.T.b G.T.builtins G.T.nolimit hg h1 h2 h3 G.T.bmain hobj hints (Nat.le_trans hlen hn2) hr hF hb (fun H hH hS => hsp H a ns hlen hH hS) fun H e s' => hCX w H s1 e s'
end L2
set_option Elab.async false
set_option linter.all false
set_option maxRecDepth 100000
set_option maxHeartbeats 2000000
namespace QL
open PySem L2 He
open PySem.W (Frag nsIn ksFn codeIn)
def kwIn (K : Frag) (nm : Str) : Value → Option Value
  | .ref D => (match nsIn K D nm with
    | some (some u) => some u
    | _ => none)
  | _ => none
theorem kwIn_ok {K : Frag} {nm : Str} {kV u : Value} (h : kwIn K nm kV = some u) : ∃ D, kV = .ref D ∧ nsIn K D nm = some (some u) := by
  cases kV with
  | ref D =>
    have h : (match nsIn K D nm with
      | some (some u) => some u
      | _ => none : Option Value) = some u := h
    cases e : nsIn K D nm with
    | none =>
      rw [e] at h
      cases h
    | some o =>
      rw [e] at h
      cases o with
      | none => cases h
      | some u' =>
        cases h
        exact ⟨D, rfl, e⟩
  | _ => cases h
section
variable {K : Frag} {P : Program} {mg : Str → Option Value} {d : Hd.DefC} {C : Addr}
theorem emptyT_ok {a : Addr} (h : Hd.emptyT K a = true) : ∀ H : Hp, SqT K H a [] := fun H => by
  unfold Hd.emptyT at h
  split at h
  · rename_i o ho
    obtain ⟨h1, h2⟩ := ba h
    split at h1
    · rename_i t ht
      split at h2
      · rename_i its n hi
        have e1 : t = "tuple" := of_decide_eq_true h1
        have e2 : its.toList = [] := of_decide_eq_true h2
        subst e1
        refine .inr ⟨o, its, n, ho, ht, hi, ?_, ?_⟩
        · rw [← Array.length_toList, e2]
          exact Nat.zero_le _
        · rw [e2]
          exact .nil
      · cases h2
    · cases h1
  · cases h
theorem kwN_of {a : Addr} {nm : Str} (h : (match Hd.kwNs K a nm with
  | some .none => true
  | _ => false) = true) : Hd.kwNs K a nm = some .none := by
  split at h
  · assumption
  · cases h
theorem kwT_of {a : Addr} {nm : Str} (h : (match Hd.kwNs K a nm with
  | some (.ref r) => Hd.emptyT K r
  | _ => false) = true) : Hd.kwNs K a nm = some (.ref (Hd.kwRef K a nm)) ∧ ∀ H : Hp, SqT K H (Hd.kwRef K a nm) [] := by
  unfold Hd.kwRef
  split at h
  · rename_i r e
    rw [e]
    exact ⟨rfl, emptyT_ok h⟩
  · cases h
theorem funS_of (S : Hd.SupF K d (d.at_ K) C) (c1 : Hd.cKwN d.at_ "grid" K = true) (c2 : Hd.cKwT d.at_ "apart" K = true) (c3 : Hd.cKwT d.at_ "on_grid" K = true) (c4 : Hd.cKwN d.at_ "at_rows" K = true) (fl : ((P.main.file : Str) == d.file) = true)
    (opq : nsIn K cStatics "thirdparty.any" = some none) (gs : mg "super" = none) (top : (P.main.scope.names.lookup ("super" : Str)).isSome = false) :
    ∃ fd, FunS P K mg d.name d.qual d.st (setK (Hd.kwRef K (d.at_ K) "apart") (Hd.kwRef K (d.at_ K) "on_grid")) (d.at_ K) C fd ∧ (∀ H : Hp, SqT K H (Hd.kwRef K (d.at_ K) "apart") []) ∧ ∀ H : Hp, SqT K H (Hd.kwRef K (d.at_ K) "on_grid") [] := by
  obtain ⟨oc, od, kV, doc, pm, an, cda, ct, cc, osl, ccl, cdd, vs, ccs, tf, cl, cld, csl, g1, g2, g3, g4, g5⟩ := S.ex
  have k1 := kwN_of c1
  have k2 := kwT_of c2
  have k3 := kwT_of c3
  have k4 := kwN_of c4
  refine ⟨_, ⟨⟨oc, od, kV, doc, pm, an, cda, ct, cc, osl, ccl, cdd, vs, ccs, d.file, tf, cl, cld, csl, ?_, rfl, g1, g2, g3, g4, fl, g5⟩, gs, top, opq⟩, k2.2, k3.2⟩
  have ev : ∀ nm u, Hd.kwNs K (d.at_ K) nm = some u → ∃ D, kV = .ref D ∧ nsIn K D nm = some (some u) := fun nm u h => by
    unfold Hd.kwNs at h
    rw [g1] at h
    exact kwIn_ok (K := K) (nm := nm) (kV := kV) h
  obtain ⟨D, rfl, n1⟩ := ev _ _ k1
  have same : ∀ nm u, Hd.kwNs K (d.at_ K) nm = some u → nsIn K D nm = some (some u) := fun nm u h => by
    obtain ⟨D', e, z⟩ := ev nm u h
    cases e
    exact z
  refine .inr ⟨D, rfl, fun q hq => ?_⟩
  simp only [setK, List.mem_cons, List.not_mem_nil, or_false] at hq
  rcases hq with rfl | rfl | rfl | rfl
  · exact ⟨_, n1, rfl⟩
  · exact ⟨_, same _ _ k2.1, rfl⟩
  · exact ⟨_, same _ _ k3.1, rfl⟩
  · exact ⟨_, same _ _ k4, rfl⟩
theorem supM_of {x m : Str} {g : Frag → Addr} (h : Hd.cSup x m g K = true) : SupM K (ga K x) (ga K x) m (g K) := by
  obtain ⟨h1, h⟩ := ba h
  obtain ⟨h2, h⟩ := ba h
  obtain ⟨h3, h⟩ := ba h
  obtain ⟨h4, h5⟩ := ba h
  exact ⟨h1, of_decide_eq_true h2, eqO_ok h3, of_decide_eq_true h4, h5⟩
end
end QL
set_option Elab.async false
set_option linter.all false
set_option maxRecDepth 100000
set_option maxHeartbeats 0
namespace QL
open PySem L2 He PySem.XS
open PySem.W (Frag nsIn findIn kitOne)
theorem factsE {P : Program} {w : World} {K : Frag} {h : Heap} {mg : Str → Option Value} {f : Addr} (X : K.In h) (G : h.Ns mainGlobals mg) (hfa : mg ("law" : Str) = some (.ref f)) (c : Hd.SaysQ faE fnsE fcE tpE h K) (flP : ((P.main.file : Str) == "/claim/cut.py") = true) (topP : (P.main.scope.names.lookup ("super" : Str)).isSome = false) :
    ∃ fd : FuncData, (∀ (s : Shared) (v : Value), BindsTo s fd ⟨[v], []⟩ [("_law_script", v)]) ∧ ∀ base : Heap, K.In base → base.Ns mainGlobals mg → (∀ p ∈ tpE, LamX.TabB base mg (Hd.cTab K (p K)).1 (Hd.cTab K (p K)).2) → FnOkG P w K mg base (L2N.CX P w) 30 f fd ["_law_script"] (toSp (gwOf K ["Setting", "Setting"] (tabT K tfE)) 1 psLaw) := by
  obtain ⟨d0, F0⟩ := c.d 0 (at_ := Hd.pg "is_integer") (x := "is_integer") (q := "is_integer") (st := s_is_integer) rfl
  have b0 : Binds K d0 ["value"] [] := F0.binds fun _ _ _ _ _ _ us hl => match us, hl with | [_], _ => rfl
  have g0 := He.glo_ok X G (c.f 23 (f := Hd.cFa (.glo "is_integer")) rfl)
  have Z_is_integer : DefAt K mg "is_integer" s_is_integer (Hd.pg "is_integer" K) d0 ["value"] := ⟨F0, b0, g0⟩
  obtain ⟨d1, F1⟩ := c.d 1 (at_ := Hd.pg "is_name") (x := "is_name") (q := "is_name") (st := s_is_name) rfl
  have b1 : Binds K d1 ["value"] [] := F1.binds fun _ _ _ _ _ _ us hl => match us, hl with | [_], _ => rfl
  have g1 := He.glo_ok X G (c.f 24 (f := Hd.cFa (.glo "is_name")) rfl)
  have Z_is_name : DefAt K mg "is_name" s_is_name (Hd.pg "is_name" K) d1 ["value"] := ⟨F1, b1, g1⟩
  obtain ⟨d2, F2⟩ := c.d 2 (at_ := Hd.pg "is_between") (x := "is_between") (q := "is_between") (st := s_is_between) rfl
  have b2 : Binds K d2 ["value", "least", "most"] [] := F2.binds fun _ _ _ _ _ _ us hl => match us, hl with | [_, _, _], _ => rfl
  have g2 := He.glo_ok X G (c.f 25 (f := Hd.cFa (.glo "is_between")) rfl)
  have Z_is_between : DefAt K mg "is_between" s_is_between (Hd.pg "is_between" K) d2 ["value", "least", "most"] := ⟨F2, b2, g2⟩
  obtain ⟨d3, F3⟩ := c.d 3 (at_ := Hd.pg "check_grid") (x := "check_grid") (q := "check_grid") (st := s_check_grid) rfl
  have b3 : Binds K d3 ["value"] [] := F3.binds fun _ _ _ _ _ _ us hl => match us, hl with | [_], _ => rfl
  have g3 := He.glo_ok X G (c.f 26 (f := Hd.cFa (.glo "check_grid")) rfl)
  have Z_check_grid : DefAt K mg "check_grid" s_check_grid (Hd.pg "check_grid" K) d3 ["value"] := ⟨F3, b3, g3⟩
  obtain ⟨d4, F4⟩ := c.d 4 (at_ := Hd.pg "check_apart") (x := "check_apart") (q := "check_apart") (st := s_check_apart) rfl
  have b4 : Binds K d4 ["value"] [] := F4.binds fun _ _ _ _ _ _ us hl => match us, hl with | [_], _ => rfl
  have g4 := He.glo_ok X G (c.f 27 (f := Hd.cFa (.glo "check_apart")) rfl)
  have Z_check_apart : DefAt K mg "check_apart" s_check_apart (Hd.pg "check_apart" K) d4 ["value"] := ⟨F4, b4, g4⟩
  obtain ⟨d5, F5⟩ := c.d 5 (at_ := Hd.pg "check_on_grid") (x := "check_on_grid") (q := "check_on_grid") (st := s_check_on_grid) rfl
  have b5 : Binds K d5 ["value", "grid"] [] := F5.binds fun _ _ _ _ _ _ us hl => match us, hl with | [_, _], _ => rfl
  have g5 := He.glo_ok X G (c.f 28 (f := Hd.cFa (.glo "check_on_grid")) rfl)
  have Z_check_on_grid : DefAt K mg "check_on_grid" s_check_on_grid (Hd.pg "check_on_grid" K) d5 ["value", "grid"] := ⟨F5, b5, g5⟩
  obtain ⟨d6, F6⟩ := c.d 6 (at_ := Hd.pg "setting_text") (x := "setting_text") (q := "setting_text") (st := s_setting_text) rfl
  have b6 : Binds K d6 ["grid", "apart", "on_grid", "at_rows"] [] := F6.binds fun _ _ _ _ _ _ us hl => match us, hl with | [_, _, _, _], _ => rfl
  have g6 := He.glo_ok X G (c.f 29 (f := Hd.cFa (.glo "setting_text")) rfl)
  have Z_setting_text : DefAt K mg "setting_text" s_setting_text (Hd.pg "setting_text" K) d6 ["grid", "apart", "on_grid", "at_rows"] := ⟨F6, b6, g6⟩
  obtain ⟨d7, F7⟩ := c.d 7 (at_ := Hd.pg "_law_number") (x := "_law_number") (q := "_law_number") (st := sNum) rfl
  have b7 : Binds K d7 ["_law_script", "_law_k"] [] := F7.binds fun _ _ _ _ _ _ us hl => match us, hl with | [_, _], _ => rfl
  have g7 := He.glo_ok X G (c.f 30 (f := Hd.cFa (.glo "_law_number")) rfl)
  have Z__law_number : DefAt K mg "_law_number" sNum (Hd.pg "_law_number" K) d7 ["_law_script", "_law_k"] := ⟨F7, b7, g7⟩
  obtain ⟨d8, F8⟩ := c.d 8 (at_ := Hd.pg "_law_source") (x := "_law_source") (q := "_law_source") (st := sSrc) rfl
  have b8 : Binds K d8 ["_law_cell"] [] := F8.binds fun _ _ _ _ _ _ us hl => match us, hl with | [_], _ => rfl
  have g8 := He.glo_ok X G (c.f 31 (f := Hd.cFa (.glo "_law_source")) rfl)
  have Z__law_source : DefAt K mg "_law_source" sSrc (Hd.pg "_law_source" K) d8 ["_law_cell"] := ⟨F8, b8, g8⟩
  obtain ⟨d9, F9⟩ := c.d 9 (at_ := Hd.pg "_law_pick") (x := "_law_pick") (q := "_law_pick") (st := sPick) rfl
  have b9 : Binds K d9 ["_law_source_here", "_law_many"] [] := F9.binds fun _ _ _ _ _ _ us hl => match us, hl with | [_, _], _ => rfl
  have g9 := He.glo_ok X G (c.f 32 (f := Hd.cFa (.glo "_law_pick")) rfl)
  have Z__law_pick : DefAt K mg "_law_pick" sPick (Hd.pg "_law_pick" K) d9 ["_law_source_here", "_law_many"] := ⟨F9, b9, g9⟩
  obtain ⟨d10, F10⟩ := c.d 10 (at_ := Hd.pg "_law_one") (x := "_law_one") (q := "_law_one") (st := s__law_one) rfl
  have b10 : Binds K d10 ["_law_source_here", "_law_things"] [] := F10.binds fun _ _ _ _ _ _ us hl => match us, hl with | [_, _], _ => rfl
  have g10 := He.glo_ok X G (c.f 33 (f := Hd.cFa (.glo "_law_one")) rfl)
  have Z__law_one : DefAt K mg "_law_one" s__law_one (Hd.pg "_law_one" K) d10 ["_law_source_here", "_law_things"] := ⟨F10, b10, g10⟩
  obtain ⟨d11, F11⟩ := c.d 11 (at_ := Hd.pg "_law_tag") (x := "_law_tag") (q := "_law_tag") (st := s__law_tag) rfl
  have b11 : Binds K d11 ["_law_source_here"] [] := F11.binds fun _ _ _ _ _ _ us hl => match us, hl with | [_], _ => rfl
  have g11 := He.glo_ok X G (c.f 34 (f := Hd.cFa (.glo "_law_tag")) rfl)
  have Z__law_tag : DefAt K mg "_law_tag" s__law_tag (Hd.pg "_law_tag" K) d11 ["_law_source_here"] := ⟨F11, b11, g11⟩
  obtain ⟨d12, F12⟩ := c.d 12 (at_ := Hd.pg "_law_tags") (x := "_law_tags") (q := "_law_tags") (st := s__law_tags) rfl
  have b12 : Binds K d12 ["_law_source_here", "_law_many"] [] := F12.binds fun _ _ _ _ _ _ us hl => match us, hl with | [_, _], _ => rfl
  have g12 := He.glo_ok X G (c.f 35 (f := Hd.cFa (.glo "_law_tags")) rfl)
  have Z__law_tags : DefAt K mg "_law_tags" s__law_tags (Hd.pg "_law_tags" K) d12 ["_law_source_here", "_law_many"] := ⟨F12, b12, g12⟩
  obtain ⟨d13, F13⟩ := c.d 13 (at_ := Hd.pg "_law_net") (x := "_law_net") (q := "_law_net") (st := s__law_net) rfl
  have b13 : Binds K d13 ["_law_source_here"] [] := F13.binds fun _ _ _ _ _ _ us hl => match us, hl with | [_], _ => rfl
  have g13 := He.glo_ok X G (c.f 36 (f := Hd.cFa (.glo "_law_net")) rfl)
  have Z__law_net : DefAt K mg "_law_net" s__law_net (Hd.pg "_law_net" K) d13 ["_law_source_here"] := ⟨F13, b13, g13⟩
  obtain ⟨d14, F14⟩ := c.d 14 (at_ := Hd.pg "_law_known") (x := "_law_known") (q := "_law_known") (st := s__law_known) rfl
  have b14 : Binds K d14 ["_law_source_here", "_law_tags_here"] [] := F14.binds fun _ _ _ _ _ _ us hl => match us, hl with | [_, _], _ => rfl
  have g14 := He.glo_ok X G (c.f 37 (f := Hd.cFa (.glo "_law_known")) rfl)
  have Z__law_known : DefAt K mg "_law_known" s__law_known (Hd.pg "_law_known" K) d14 ["_law_source_here", "_law_tags_here"] := ⟨F14, b14, g14⟩
  obtain ⟨d15, F15⟩ := c.d 15 (at_ := Hd.pg "_law_known_text") (x := "_law_known_text") (q := "_law_known_text") (st := s__law_known_text) rfl
  have b15 : Binds K d15 ["_law_known_here"] [] := F15.binds fun _ _ _ _ _ _ us hl => match us, hl with | [_], _ => rfl
  have g15 := He.glo_ok X G (c.f 38 (f := Hd.cFa (.glo "_law_known_text")) rfl)
  have Z__law_known_text : DefAt K mg "_law_known_text" s__law_known_text (Hd.pg "_law_known_text" K) d15 ["_law_known_here"] := ⟨F15, b15, g15⟩
  obtain ⟨d16, F16⟩ := c.d 16 (at_ := Hd.pg "_law_is_tag") (x := "_law_is_tag") (q := "_law_is_tag") (st := s__law_is_tag) rfl
  have b16 : Binds K d16 ["_law_thing"] [] := F16.binds fun _ _ _ _ _ _ us hl => match us, hl with | [_], _ => rfl
  have g16 := He.glo_ok X G (c.f 39 (f := Hd.cFa (.glo "_law_is_tag")) rfl)
  have Z__law_is_tag : DefAt K mg "_law_is_tag" s__law_is_tag (Hd.pg "_law_is_tag" K) d16 ["_law_thing"] := ⟨F16, b16, g16⟩
  obtain ⟨d17, F17⟩ := c.d 17 (at_ := Hd.pg "_law_is_whole") (x := "_law_is_whole") (q := "_law_is_whole") (st := s__law_is_whole) rfl
  have b17 : Binds K d17 ["_law_thing"] [] := F17.binds fun _ _ _ _ _ _ us hl => match us, hl with | [_], _ => rfl
  have g17 := He.glo_ok X G (c.f 40 (f := Hd.cFa (.glo "_law_is_whole")) rfl)
  have Z__law_is_whole : DefAt K mg "_law_is_whole" s__law_is_whole (Hd.pg "_law_is_whole" K) d17 ["_law_thing"] := ⟨F17, b17, g17⟩
  obtain ⟨d18, F18⟩ := c.d 18 (at_ := Hd.pg "_law_caught") (x := "_law_caught") (q := "_law_caught") (st := s__law_caught) rfl
  have b18 : Binds K d18 ["_law_act"] [] := F18.binds fun _ _ _ _ _ _ us hl => match us, hl with | [_], _ => rfl
  have g18 := He.glo_ok X G (c.f 41 (f := Hd.cFa (.glo "_law_caught")) rfl)
  have Z__law_caught : DefAt K mg "_law_caught" s__law_caught (Hd.pg "_law_caught" K) d18 ["_law_act"] := ⟨F18, b18, g18⟩
  obtain ⟨d19, F19⟩ := c.d 19 (at_ := Hd.pg "_law_field") (x := "_law_field") (q := "_law_field") (st := s__law_field) rfl
  have b19 : Binds K d19 ["_law_e", "_law_at"] [] := F19.binds fun _ _ _ _ _ _ us hl => match us, hl with | [_, _], _ => rfl
  have g19 := He.glo_ok X G (c.f 42 (f := Hd.cFa (.glo "_law_field")) rfl)
  have Z__law_field : DefAt K mg "_law_field" s__law_field (Hd.pg "_law_field" K) d19 ["_law_e", "_law_at"] := ⟨F19, b19, g19⟩
  obtain ⟨d20, F20⟩ := c.d 20 (at_ := Hd.pg "_law_bent") (x := "_law_bent") (q := "_law_bent") (st := s__law_bent) rfl
  have b20 : Binds K d20 ["_law_source_here", "_law_things", "_law_odd"] [] := F20.binds fun _ _ _ _ _ _ us hl => match us, hl with | [_, _, _], _ => rfl
  have g20 := He.glo_ok X G (c.f 43 (f := Hd.cFa (.glo "_law_bent")) rfl)
  have Z__law_bent : DefAt K mg "_law_bent" s__law_bent (Hd.pg "_law_bent" K) d20 ["_law_source_here", "_law_things", "_law_odd"] := ⟨F20, b20, g20⟩
  obtain ⟨d21, F21⟩ := c.d 21 (at_ := Hd.pg "_law_is_net") (x := "_law_is_net") (q := "_law_is_net") (st := s__law_is_net) rfl
  have b21 : Binds K d21 ["_law_thing"] [] := F21.binds fun _ _ _ _ _ _ us hl => match us, hl with | [_], _ => rfl
  have g21 := He.glo_ok X G (c.f 44 (f := Hd.cFa (.glo "_law_is_net")) rfl)
  have Z__law_is_net : DefAt K mg "_law_is_net" s__law_is_net (Hd.pg "_law_is_net" K) d21 ["_law_thing"] := ⟨F21, b21, g21⟩
  obtain ⟨d22, F22⟩ := c.d 22 (at_ := Hd.pg "_law_is_pair") (x := "_law_is_pair") (q := "_law_is_pair") (st := s__law_is_pair) rfl
  have b22 : Binds K d22 ["_law_thing"] [] := F22.binds fun _ _ _ _ _ _ us hl => match us, hl with | [_], _ => rfl
  have g22 := He.glo_ok X G (c.f 45 (f := Hd.cFa (.glo "_law_is_pair")) rfl)
  have Z__law_is_pair : DefAt K mg "_law_is_pair" s__law_is_pair (Hd.pg "_law_is_pair" K) d22 ["_law_thing"] := ⟨F22, b22, g22⟩
  obtain ⟨d23, F23⟩ := c.d 23 (at_ := Hd.pg "_law_due") (x := "_law_due") (q := "_law_due") (st := s__law_due) rfl
  have b23 : Binds K d23 ["_law_net_here", "_law_pairs", "_law_ons", "_law_at"] [] := F23.binds fun _ _ _ _ _ _ us hl => match us, hl with | [_, _, _, _], _ => rfl
  have g23 := He.glo_ok X G (c.f 46 (f := Hd.cFa (.glo "_law_due")) rfl)
  have Z__law_due : DefAt K mg "_law_due" s__law_due (Hd.pg "_law_due" K) d23 ["_law_net_here", "_law_pairs", "_law_ons", "_law_at"] := ⟨F23, b23, g23⟩
  obtain ⟨d24, F24⟩ := c.d 24 (at_ := Hd.pg "_law_right") (x := "_law_right") (q := "_law_right") (st := s__law_right) rfl
  have b24 : Binds K d24 ["_law_source_here"] [] := F24.binds fun _ _ _ _ _ _ us hl => match us, hl with | [_], _ => rfl
  have g24 := He.glo_ok X G (c.f 47 (f := Hd.cFa (.glo "_law_right")) rfl)
  have Z__law_right : DefAt K mg "_law_right" s__law_right (Hd.pg "_law_right" K) d24 ["_law_source_here"] := ⟨F24, b24, g24⟩
  obtain ⟨d25, F25⟩ := c.d 25 (at_ := Hd.pg "_law_by_hand") (x := "_law_by_hand") (q := "_law_by_hand") (st := s__law_by_hand) rfl
  have b25 : Binds K d25 [] [] := F25.binds fun _ _ _ _ _ _ us hl => match us, hl with | [], _ => rfl
  have g25 := He.glo_ok X G (c.f 48 (f := Hd.cFa (.glo "_law_by_hand")) rfl)
  have Z__law_by_hand : DefAt K mg "_law_by_hand" s__law_by_hand (Hd.pg "_law_by_hand" K) d25 [] := ⟨F25, b25, g25⟩
  obtain ⟨d26, F26⟩ := c.d 26 (at_ := Hd.pg "law") (x := "law") (q := "law") (st := s_law) rfl
  have b26 : Binds K d26 ["_law_script"] [] := F26.binds fun _ _ _ _ _ _ us hl => match us, hl with | [_], _ => rfl
  have g26 := He.glo_ok X G (c.f 49 (f := Hd.cFa (.glo "law")) rfl)
  have Z_law : DefAt K mg "law" s_law (Hd.pg "law" K) d26 ["_law_script"] := ⟨F26, b26, g26⟩
  obtain ⟨e0, M0⟩ := c.d 27 (at_ := Hd.pm "Written" "__init__") (x := "__init__") (q := "Written.__init__") (st := s_Written___init__) rfl
  have BI_Written___init__ : Binds K e0 ["self", "text"] [] := M0.binds fun _ _ _ _ _ _ us hl => match us, hl with | [_, _], _ => rfl
  obtain ⟨e1, M1⟩ := c.d 28 (at_ := Hd.pm "Written" "__str__") (x := "__str__") (q := "Written.__str__") (st := s_Written___str__) rfl
  have BI_Written___str__ : Binds K e1 ["self"] [] := M1.binds fun _ _ _ _ _ _ us hl => match us, hl with | [_], _ => rfl
  have T : Bn mg := ⟨He.free_ok X G (c.f 0 (f := Hd.cFa (.free "isinstance")) rfl), He.free_ok X G (c.f 1 (f := Hd.cFa (.free "int")) rfl), He.free_ok X G (c.f 2 (f := Hd.cFa (.free "bool")) rfl), He.free_ok X G (c.f 3 (f := Hd.cFa (.free "str")) rfl), He.free_ok X G (c.f 4 (f := Hd.cFa (.free "tuple")) rfl), He.free_ok X G (c.f 5 (f := Hd.cFa (.free "list")) rfl), He.free_ok X G (c.f 6 (f := Hd.cFa (.free "dict")) rfl), He.free_ok X G (c.f 7 (f := Hd.cFa (.free "len")) rfl), He.free_ok X G (c.f 8 (f := Hd.cFa (.free "all")) rfl), He.free_ok X G (c.f 9 (f := Hd.cFa (.free "any")) rfl), He.free_ok X G (c.f 10 (f := Hd.cFa (.free "enumerate")) rfl), He.free_ok X G (c.f 11 (f := Hd.cFa (.free "sorted")) rfl), He.free_ok X G (c.f 12 (f := Hd.cFa (.free "abs")) rfl), He.free_ok X G (c.f 13 (f := Hd.cFa (.free "range")) rfl), He.free_ok X G (c.f 14 (f := Hd.cFa (.free "set")) rfl), He.free_ok X G (c.f 15 (f := Hd.cFa (.free "repr")) rfl), He.free_ok X G (c.f 16 (f := Hd.cFa (.free "max")) rfl), He.free_ok X G (c.f 17 (f := Hd.cFa (.free "min")) rfl)⟩
  have gs := He.free_ok X G (c.f 22 (f := Hd.cFa (.free "super")) rfl)
  have c1 := (c.f 55 (f := cErr1) rfl)
  have c2 := (c.f 56 (f := cErr2) rfl)
  have c7 := (c.f 61 (f := cErr7) rfl)
  have EK : ErrK (gwOf K ["Setting", "Setting"] (tabT K tfE)) mg := errK_of X G c1 c2 (c.f 57 (f := cErr3) rfl) (c.f 58 (f := cErr4) rfl) (c.f 59 (f := cErr5) rfl) (c.f 60 (f := cErr6) rfl) (He.free_ok X G (c.f 18 (f := Hd.cFa (.free "ValueError")) rfl)) (He.free_ok X G (c.f 19 (f := Hd.cFa (.free "LookupError")) rfl)) (He.free_ok X G (c.f 20 (f := Hd.cFa (.free "RuntimeError")) rfl)) (He.free_ok X G (c.f 21 (f := Hd.cFa (.free "ArithmeticError")) rfl))
  have IK : IsiK (gwOf K ["Setting", "Setting"] (tabT K tfE)) := isiK_of (by decide) (c.f 62 (f := cIsi1) rfl) (c.f 63 (f := cIsi2 ["Setting", "Setting"]) rfl)
  have opq : nsIn K cStatics "thirdparty.any" = some none := He.eqO_ok (c.f 64 (f := (fun K => He.eqO (nsIn K cStatics "thirdparty.any") (some none))) rfl)
  have X_InvalidName : ExcOk (gwOf K ["Setting", "Setting"] (tabT K tfE)) P w mg 0 "InvalidName" "value" := excOk_of (d := ⟨Hd.pm (xsn 0) "__init__", Hd.pg (xsn 0), "__init__", "InvalidName.__init__", item (top 6) 0, "/claim/cut.py"⟩) X G c1 c2 c7 0 (by decide) rfl (c.f 66 (f := (fun K => Hd.etB K (bsn (basN 0)) (He.ga K (xsn 0)) (Hd.pm (xsn 0) "__init__" K) "value")) rfl) (c.s 0 (d := ⟨Hd.pm (xsn 0) "__init__", Hd.pg (xsn 0), "__init__", "InvalidName.__init__", item (top 6) 0, "/claim/cut.py"⟩) rfl) rfl ⟨⟨_, _, _, _, _, _, _, _, _, _, _, _, rfl, rfl, rfl, rfl⟩⟩ flP opq gs topP
  have X_InvalidGrid : ExcOk (gwOf K ["Setting", "Setting"] (tabT K tfE)) P w mg 6 "InvalidGrid" "value" := excOk_of (d := ⟨Hd.pm (xsn 6) "__init__", Hd.pg (xsn 6), "__init__", "InvalidGrid.__init__", item (top 12) 0, "/claim/cut.py"⟩) X G c1 c2 c7 6 (by decide) rfl (c.f 67 (f := (fun K => Hd.etB K (bsn (basN 6)) (He.ga K (xsn 6)) (Hd.pm (xsn 6) "__init__" K) "value")) rfl) (c.s 1 (d := ⟨Hd.pm (xsn 6) "__init__", Hd.pg (xsn 6), "__init__", "InvalidGrid.__init__", item (top 12) 0, "/claim/cut.py"⟩) rfl) rfl ⟨⟨_, _, _, _, _, _, _, _, _, _, _, _, rfl, rfl, rfl, rfl⟩⟩ flP opq gs topP
  have X_InvalidApart : ExcOk (gwOf K ["Setting", "Setting"] (tabT K tfE)) P w mg 14 "InvalidApart" "index" := excOk_of (d := ⟨Hd.pm (xsn 14) "__init__", Hd.pg (xsn 14), "__init__", "InvalidApart.__init__", item (top 18) 0, "/claim/cut.py"⟩) X G c1 c2 c7 14 (by decide) rfl (c.f 68 (f := (fun K => Hd.etB K (bsn (basN 14)) (He.ga K (xsn 14)) (Hd.pm (xsn 14) "__init__" K) "index")) rfl) (c.s 2 (d := ⟨Hd.pm (xsn 14) "__init__", Hd.pg (xsn 14), "__init__", "InvalidApart.__init__", item (top 18) 0, "/claim/cut.py"⟩) rfl) rfl ⟨⟨_, _, _, _, _, _, _, _, _, _, _, _, rfl, rfl, rfl, rfl⟩⟩ flP opq gs topP
  have X_InvalidFeeds : ExcOk (gwOf K ["Setting", "Setting"] (tabT K tfE)) P w mg 15 "InvalidFeeds" "index" := excOk_of (d := ⟨Hd.pm (xsn 15) "__init__", Hd.pg (xsn 15), "__init__", "InvalidFeeds.__init__", item (top 19) 0, "/claim/cut.py"⟩) X G c1 c2 c7 15 (by decide) rfl (c.f 69 (f := (fun K => Hd.etB K (bsn (basN 15)) (He.ga K (xsn 15)) (Hd.pm (xsn 15) "__init__" K) "index")) rfl) (c.s 3 (d := ⟨Hd.pm (xsn 15) "__init__", Hd.pg (xsn 15), "__init__", "InvalidFeeds.__init__", item (top 19) 0, "/claim/cut.py"⟩) rfl) rfl ⟨⟨_, _, _, _, _, _, _, _, _, _, _, _, rfl, rfl, rfl, rfl⟩⟩ flP opq gs topP
  obtain ⟨t_LETTERS, m_LETTERS⟩ := He.str_ok X G (c.f 50 (f := Hd.cFa (.str "LETTERS" "abcdefghijklmnopqrstuvwxyz")) rfl)
  obtain ⟨t_SIGNS, m_SIGNS⟩ := He.str_ok X G (c.f 51 (f := Hd.cFa (.str "SIGNS" "abcdefghijklmnopqrstuvwxyz0123456789")) rfl)
  obtain ⟨t_MAX_LENGTH, m_MAX_LENGTH⟩ := He.int_ok X G (c.f 52 (f := Hd.cFa (.int "MAX_LENGTH" 8)) rfl)
  obtain ⟨t_MAX_STEP, m_MAX_STEP⟩ := He.int_ok X G (c.f 53 (f := Hd.cFa (.int "MAX_STEP" 60)) rfl)
  obtain ⟨t_MAX_DISTANCE, m_MAX_DISTANCE⟩ := He.int_ok X G (c.f 54 (f := Hd.cFa (.int "MAX_DISTANCE" 1000000000)) rfl)
  have MG_Setting : mg "Setting" = some (.ref (caOf K ["Setting", "Setting"] 22)) := He.glo_ok X G (c.f 73 (f := Hd.cFa (.glo "Setting")) rfl)
  have CC_Setting : Cls K (caOf K ["Setting", "Setting"] 22) := He.cls_ok (c.f 74 (f := Hd.cFa (.cls "Setting")) rfl)
  have MK_Setting : Mk K (caOf K ["Setting", "Setting"] 22) (Hd.pm "Setting" "__init__" K) := He.mkr_ok (c.f 75 (f := Hd.cFa (.mkr "Setting")) rfl)
  have MG_Setting : mg "Setting" = some (.ref (caOf K ["Setting", "Setting"] 23)) := He.glo_ok X G (c.f 73 (f := Hd.cFa (.glo "Setting")) rfl)
  have CC_Setting : Cls K (caOf K ["Setting", "Setting"] 23) := He.cls_ok (c.f 74 (f := Hd.cFa (.cls "Setting")) rfl)
  have MK_Setting : Mk K (caOf K ["Setting", "Setting"] 23) (Hd.pm "Setting" "__init__" K) := He.mkr_ok (c.f 75 (f := Hd.cFa (.mkr "Setting")) rfl)
  have NA_Setting_known : NoAttr K (caOf K ["Setting", "Setting"] 23) "known" := He.noat_ok (c.f 76 (f := Hd.cFa (.noat "Setting" "known")) rfl)
  have NA_Setting_text : NoAttr K (caOf K ["Setting", "Setting"] 23) "text" := He.noat_ok (c.f 77 (f := Hd.cFa (.noat "Setting" "text")) rfl)
  have e := hfa.symm.trans g26
  cases e
  refine ⟨d26, fun s v => by
    obtain ⟨oc, od, kV, doc, pm, an, cdv, ct, osl, rfl, lk, hcd⟩ := F26.ex
    exact .of_eq rfl, fun base _ _ TB => ?_⟩
  have LA__law_right : LamAt (gwOf K ["Setting", "Setting"] (tabT K tfE)) base mg ("_law_right" ++ ".<locals>.") d24.code := lamAt_of (at_ := Hd.pg "_law_right") F24 (by simp [tfE]) (c.f 65 (f := cTabs tfE) rfl) (TB (Hd.pg "_law_right") (by simp [tpE, tfE]))
  have LA__law_by_hand : LamAt (gwOf K ["Setting", "Setting"] (tabT K tfE)) base mg ("_law_by_hand" ++ ".<locals>.") d25.code := lamAt_of (at_ := Hd.pg "_law_by_hand") F25 (by simp [tfE]) (c.f 65 (f := cTabs tfE) rfl) (TB (Hd.pg "_law_by_hand") (by simp [tpE, tfE]))
  have FO_known : FldOk (gwOf K ["Setting", "Setting"] (tabT K tfE)) [23] "known" := fun c hc => by
    rw [List.mem_singleton.mp hc]
    exact ⟨CC_Setting, NA_Setting_known⟩
  have FO_text : FldOk (gwOf K ["Setting", "Setting"] (tabT K tfE)) [23] "text" := fun c hc => by
    rw [List.mem_singleton.mp hc]
    exact ⟨CC_Setting, NA_Setting_text⟩
  obtain ⟨dI, FS, em1, em2⟩ := funS_of (P := P) (mg := mg) (d := ⟨Hd.pm "Setting" "__init__", Hd.pg "Setting", "__init__", "Setting.__init__", item (top 42) 1, "/claim/cut.py"⟩) (C := He.ga K "Setting") (c.s 4 (d := ⟨Hd.pm "Setting" "__init__", Hd.pg "Setting", "__init__", "Setting.__init__", item (top 42) 1, "/claim/cut.py"⟩) rfl) (c.f 79 (f := Hd.cKwN (Hd.pm "Setting" "__init__") "grid") rfl) (c.f 80 (f := Hd.cKwT (Hd.pm "Setting" "__init__") "apart") rfl) (c.f 81 (f := Hd.cKwT (Hd.pm "Setting" "__init__") "on_grid") rfl) (c.f 82 (f := Hd.cKwN (Hd.pm "Setting" "__init__") "at_rows") rfl) flP opq gs topP
  have SM := supM_of (c.f 83 (f := Hd.cSup "Setting" "__init__" (Hd.pm "Written" "__init__")) rfl)
  have hstr := He.ba (c.f 84 (f := (fun K => He.eqO (findIn K (.ref (He.ga K "Setting")) "__str__") (some (some (.ref (Hd.pm "Written" "__str__" K)))) && PySem.W.isFn K (.ref (Hd.pm "Written" "__str__" K)))) rfl)
  have SH_str : ∀ c ∈ [23], PySem.W.findIn K (.ref (caOf K ["Setting", "Setting"] c)) "__str__" = some (some (.ref (Hd.pm "Written" "__str__" K))) ∧ PySem.W.isFn K (.ref (Hd.pm "Written" "__str__" K)) = true := fun c hc => by
    rw [List.mem_singleton.mp hc]
    exact ⟨He.eqO_ok hstr.1, hstr.2⟩
  have F_init := fun j => p_set (G := gwOf K ["Setting", "Setting"] (tabT K tfE)) (P := P) (w := w) (base := base) (k := j) FS T FO_known (fun c hc => by rw [List.mem_singleton.mp hc]; exact SM) (p_winit (k := j + 2) M0 FO_text) BI_Written___init__ Z_check_grid (p_grid (k := j) F3 T IK m_MAX_STEP Z_is_integer Z_is_between X_InvalidGrid) Z_check_apart (p_apart (k := j) F4 T IK m_MAX_DISTANCE m_LETTERS m_SIGNS m_MAX_LENGTH Z_is_name Z_is_integer Z_is_between X_InvalidApart) Z_check_on_grid (p_feeds (k := j) F5 T IK m_LETTERS m_SIGNS m_MAX_LENGTH Z_is_name X_InvalidFeeds) Z_is_name (p_name (k := j + 2) F1 T IK m_LETTERS m_SIGNS m_MAX_LENGTH) Z_setting_text (p_text (k := j + 2) F6 T) X_InvalidName
  have F_str := fun j => p_wstr (G := gwOf K ["Setting", "Setting"] (tabT K tfE)) (P := P) (w := w) (base := base) (mg := mg) (k := j) M1 FO_text
  have F_tags := fun j => p_tags (G := gwOf K ["Setting", "Setting"] (tabT K tfE)) (P := P) (w := w) (base := base) (k := j) F12 T Z__law_pick Z__law_one Z__law_tag
  have F_known := fun j => p_known (G := gwOf K ["Setting", "Setting"] (tabT K tfE)) (P := P) (w := w) (base := base) (k := j) F14 T Z__law_pick Z__law_one Z__law_net
  have F_kt := fun j => p_kt (G := gwOf K ["Setting", "Setting"] (tabT K tfE)) (P := P) (w := w) (base := base) (k := j) F15 T
  have F_bent := fun j => p_bent (G := gwOf K ["Setting", "Setting"] (tabT K tfE)) (P := P) (w := w) (base := base) (k := j) F20 T Z__law_pick Z__law_one
  have F_due := fun j => p_due (G := gwOf K ["Setting", "Setting"] (tabT K tfE)) (P := P) (w := w) (base := base) (k := j) F23 T IK Z__law_is_tag Z__law_is_whole Z__law_is_net Z__law_is_pair
  have F_right := p_right (G := gwOf K ["Setting", "Setting"] (tabT K tfE)) (P := P) (w := w) (base := base) (k := 20) F24 LA__law_right T EK Z__law_pick Z__law_one Z__law_tags F_tags Z__law_known F_known Z__law_bent F_bent Z__law_due F_due Z__law_known_text F_kt Z__law_caught Z__law_field MK_Setting MG_Setting FS F_init SH_str F_str BI_Written___str__
  have F_hand := p_hand (G := gwOf K ["Setting", "Setting"] (tabT K tfE)) (P := P) (w := w) (base := base) (k := 20) F25 LA__law_by_hand T EK Z__law_caught Z__law_field em1 em2 MK_Setting MG_Setting FS F_init SH_str F_str BI_Written___str__
  exact p_law (G := gwOf K ["Setting", "Setting"] (tabT K tfE)) (k := 20) F26 T Z__law_number Z__law_source Z__law_right F_right Z__law_by_hand F_hand
end QL
open PySem PySem.W PySem.Calls PyProof.Rows
set_option maxRecDepth 100000 in
set_option maxHeartbeats 0 in
theorem PySem.Challenge.cw_latestrows_k14_settings_refused_holds : PySem.Challenge.rw_latestrows_k14_settings_refused.Holds := by
  w_on; o_law
  refine HandSHeadRun.head_any (r := OpenLaw.row PySem.Challenge.rw_latestrows_k14_settings_refused) (q := view (OpenLaw.row PySem.Challenge.rw_latestrows_k14_settings_refused).prog [64]) (H := QL.hkE) (ob := QL.obE) (M := 30000) (loose := QL.looseE) (d := HandSHeadRun.topDef (OpenLaw.row PySem.Challenge.rw_latestrows_k14_settings_refused).prog 64) (kwd := []) QL.obE_eq
    (by kernel_rfl) (fun s => by kernel_rfl) QL.runE (by kernel_rfl) (by kernel_rfl) (by kernel_rfl) (by rfl) (by first | assumption | decide +kernel) (by decide +kernel) ⟨rfl, rfl, rfl, rfl, rfl, by decide +kernel⟩ ?hw ?hc
  case hw => w_witness2
  case hc =>
    refine L2.walk_ofT (l := PySem.Challenge.rw_latestrows_k14_settings_refused) (n := 63) (k := 30) (x := "_law_script") (CX := fun w => L2N.CX (PySem.Challenge.rw_latestrows_k14_settings_refused).prog w) rfl (by decide) (by kernel_rfl) ⟨rfl, by decide, by decide⟩ ?F (fun _ _ _ _ _ z => by
      obtain ⟨_, _, _, _, _, _, _, _, _, _, _, _, z⟩ := z
      exact z.elim)
    intro w mg fa h Y G hmg0
    obtain ⟨K, KX, c⟩ := Y
    have hmg : mg ("law" : PySem.Str) = some (.ref fa) := by
      have e : (HandSHeadRun.topDef (OpenLaw.row PySem.Challenge.rw_latestrows_k14_settings_refused).prog 64).name = ("law" : PySem.Str) := by kernel_rfl
      rw [← e]
      exact hmg0
    obtain ⟨fd, hb, hF⟩ := QL.factsE (P := (PySem.Challenge.rw_latestrows_k14_settings_refused).prog) (w := w) KX G hmg c (by kernel_rfl) (by kernel_rfl)
    refine ⟨K, KX, fd, QL.tpE.map fun p => Hd.cTab K (p K), _, fun p hp => ?_, fun p hp => ?_, fun p hp => ?_, hb, fun H a ns hl hT hS => ?_, fun base k1 k2 TB => hF base k1 k2 fun p hp => TB _ (List.mem_map.mpr ⟨p, hp, rfl⟩)⟩
    · obtain ⟨q, hq, rfl⟩ := List.mem_map.mp hp
      exact c.empty q hq
    · obtain ⟨q, hq, rfl⟩ := List.mem_map.mp hp
      exact c.out q hq
    · obtain ⟨q, hq, rfl⟩ := List.mem_map.mp hp
      exact PySem.W.codeHd_of_K KX (c.hd q hq)
    · refine QL.pre_law (fun p hp => ?_) hS ⟨ns, rfl, hl, rfl⟩
      obtain ⟨q, hq, rfl⟩ := List.mem_map.mp hp
      exact hT (Hd.cTab K (q.1 K)) (List.mem_map.mpr ⟨q.1, List.mem_map.mpr ⟨q, hq, rfl⟩, rfl⟩)
