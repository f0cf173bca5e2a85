import PyProof.Rows.All
import Wide.All
import OpenK.AllK
import Wide.FinOn
import HandS.ForMost
import HandS.Exc
import HandS.WordsExc
import PyProof.ReprRoads
import HandS.Ends
import HandS.HeadEnd
import HandS.Property
import HandS.IsInst
import HandS.More
import KE.KSuperObj
import KE.SortData
import PyProof.TupleOfSeq
import HandS.SortRule
import HandS.ExcValue
import HandS.Star
import HandS.ClsMeth
import HandS.Deep
import HandS.Walk
import KE.GoesEnum
import KE.GoesMore
import KE.KStar
import HandS.DictComp
import KE.KMethU
import HandS.Strs
import HandS.TupSets
import HandS.Conv
import HandS.FStr
import HandS.Text
import PyProof.ReprLen
import HandS.Head0
import HandS.Head1
import HandS.Head2
import HandS.HeadHook1
import HandS.HeadHook2
import PySem.Challenge.RW_latestrows_k01_tables_made
set_option Elab.async false
set_option linter.all false
set_option maxRecDepth 100000
set_option maxHeartbeats 2000000
namespace L2
open PySem PySem.Spec PyProof.Rows
/-! ### defs that are called where nothing is being shown (repr): the guards are known to be none -/
structure FnOkG (P : Program) (w : World) (K : PySem.W.Frag) (mg : Str → Option Value) (base : Heap) (CX : CXT) (k : Nat) (f : Addr) (fd : FuncData) (ps : List Str) (sp : Sp) : Prop where
  len : ∀ vs H Q E, sp vs H Q E → vs.length = ps.length
  run : ∀ (A : Around) (outer : List Env) (s : Shared) (H : Hp) (args : Args) (us : List Value) (vs : List V) (Q : VK) (E : XK), Room k A → A.guards = some [] → Env0 P w K mg base A outer s H →
    BindsTo s fd args (ps.zip us) → Vals vs us → sp vs H Q E → codeAny (model P w) A (.call (.ref f) args) (CR CX outer P w H s Q E) s
section
variable {P : Program} {w : World} {K : PySem.W.Frag} {mg : Str → Option Value} {base : Heap} {CX : CXT} {k : Nat} {f : Addr} {fd : FuncData} {ps : List Str} {sp : Sp}
theorem FnOk.g (F : FnOk P w K mg base CX k f fd ps sp) : FnOkG P w K mg base CX k f fd ps sp := ⟨F.len, fun A outer s H args us vs Q E hr _ => F.run A outer s H args us vs Q E hr⟩
theorem FnOkG.mono {j : Nat} (F : FnOkG P w K mg base CX j f fd ps sp) (h : j ≤ k) : FnOkG P w K mg base CX k f fd ps sp :=
  ⟨F.len, fun A outer s H args us vs Q E hr => F.run A outer s H args us vs Q E (hr.mono h)⟩
theorem guards_deeper {A : Around} {env : Env} (h : A.guards = some []) : (A.deeper env).guards = some [] := by
  first
    | exact h
    | simpa [Around.deeper] using h
theorem fn_ofG {name qual : Str} {params : Arguments} {body : List Stmt} {scope : Scope} {dV kV doc pm cdv ct oc : Value} {an od : Option Addr} {osl : Array (Option Value)} {N : List Str}
    (lk : K.lookup f = some ⟨oc, od, .func (PySem.W.fnOf name qual params body scope dV kV doc pm an cdv ct), osl⟩) (hcd : PySem.W.codeIn K cdv qual = true) (S : FnScope N ps scope)
    (len : ∀ vs H Q E, sp vs H Q E → vs.length = ps.length)
    (hbody : ∀ (A : Around) (outer : List Env) (s : Shared) (H : Hp) (vs : List V) (Q : VK) (E : XK), Room k (A.deeper (envOfC qual scope s.heap.objs.size f cdv)) → (A.deeper (envOfC qual scope s.heap.objs.size f cdv)).guards = some [] → sp vs H Q E →
      ∃ t, PSs (cxOf CX P w K mg base N qual scope f cdv A outer s H E) body t ∧ t { nx := fun _ H' => Q .non H', rt := Q } (start N vs) H) :
    FnOkG P w K mg base CX (k + 1) f (PySem.W.fnOf name qual params body scope dV kV doc pm an cdv ct) ps sp := by
  constructor
  · exact len
  intro A outer s H args us vs Q E room hg e0 bnd rel pre
  have bk : ∀ b o, base.get? b = some o → s.heap.get? b = some o := fun b o z => (e0.bs b o z).1
  have kin : K.In s.heap := e0.mod.kin.keeps bk
  have nolim : s.heap.NoLimit := e0.mod.nolimit.keeps bk
  have kinds : ∀ y ∈ ps.zip us, scope.names.lookup y.1 = some .local ∨ (scope.names.lookup y.1 = some .cell ∧ ((cellsFrom (s.heap.objs.size + 1) scope.names []).lookup y.1).isSome = true) := by
    rintro ⟨n, v⟩ hy
    cases S.par n (List.of_mem_zip hy).1 with
    | inl q => exact .inl q
    | inr q => exact .inr ⟨q, PySem.W.cellsFrom_some _ _ _ (.inl q)⟩
  apply codeAny_call_function room.depth (kin _ _ lk) rfl S.co S.gen rfl (PySem.W.codeRec_of kin hcd)
  apply bnd
  apply wpAny_newFunctionEnv_cells S.kind kinds
  rintro env rfl s1 x
  refine ⟨nolim.keeps x.toInCall.keep, codeAny_func ?_⟩
  obtain ⟨t, ht, hq⟩ := hbody A outer s H vs Q E (room.deeper _) (guards_deeper hg) pre
  have J := inv_start (CX := CX) (E := E) S room.hd e0 (len _ _ _ _ pre) rel x
  refine wpAny_mono (ht.run [] s1 (start N vs) H _ J hq) (fun fl s' z => ?_) fun _ _ z => z
  cases fl with
  | ret u =>
    obtain ⟨v, _, H', J', rv, q⟩ := z
    exact ⟨v, H', J'.os, J'.bare, J'.base, J'.hok, rv, q⟩
  | next =>
    obtain ⟨_, H', J', q⟩ := z
    exact ⟨.non, H', J'.os, J'.bare, J'.base, J'.hok, rfl, q⟩
  | brk =>
    obtain ⟨_, _, _, q⟩ := z
    cases q
  | cont =>
    obtain ⟨_, _, _, q⟩ := z
    cases q
theorem Fun.okG {x qual : Str} {st : Stmt} {N : List Str} (F : Fun K x qual st f fd) (S : FnScope N ps (defScope st)) (len : ∀ vs H Q E, sp vs H Q E → vs.length = ps.length)
    (hbody : ∀ (cdv : Value) (A : Around) (outer : List Env) (s : Shared) (H : Hp) (vs : List V) (Q : VK) (E : XK), Room k (A.deeper (envOfC qual (defScope st) s.heap.objs.size f cdv)) → (A.deeper (envOfC qual (defScope st) s.heap.objs.size f cdv)).guards = some [] → sp vs H Q E →
      ∃ t, PSs (cxOf CX0 P w K mg base N qual (defScope st) f cdv A outer s H E).nox (defBody st) t ∧ t { nx := fun _ H' => Q .non H', rt := Q } (start N vs) H) : FnOkG P w K mg base CX0 (k + 1) f fd ps sp := by
  obtain ⟨oc, od, kV, doc, pm, an, cdv, ct, osl, rfl, lk, hcd⟩ := F.ex
  refine fn_ofG lk hcd S len fun A outer s H vs Q E hr hg hsp => ?_
  obtain ⟨t, h1, h2⟩ := hbody cdv A outer s H vs Q E hr hg hsp
  exact ⟨t, h1.nox, h2⟩
end
section
variable {X : Cx} {CX : CXT} {k : Nat} {f : Addr} {fd : FuncData} {ps : List Str} {sp : Sp} {ds : List Value} {dvs : List V} {E : XK} {x : Str} {e : Expr} {es : List Expr} {t : TA} {p pos : Pos}
theorem run_fnG {pins : List (Addr × Obj)} {σ : St} {H : Hp} {s : Shared} {Q : VK} {us : List Value} {vs : List V} (F : FnOkG X.prog X.w X.K X.mg X.base CX k f fd ps sp) (hr : Room k X.A) (hg : X.A.guards = some []) (hb : Binds X.K fd ps ds) (hd : Vals dvs ds) (hx : Passes CX X E)
    (I : Inv X pins σ H s) (r : Vals vs us) (h : sp (vs ++ dvs) H Q E) : wpAny (model X.prog X.w) X.A (call (.ref f) us) (EP X pins σ Q) X.xe s := by
  have rr : Vals (vs ++ dvs) (us ++ ds) := r.append hd
  have hl : (us ++ ds).length = ps.length := rr.length ▸ F.len _ _ _ _ h
  apply wpAny_call
  apply codeAny_mono (F.run X.A X.stack s H ⟨us, []⟩ (us ++ ds) (vs ++ dvs) Q E hr hg I.env0 (hb s us I.kIn hl) rr h)
  intro r s' z
  match r, z with
  | .error e, z => exact hx pins σ H s e s' I z
  | .ok (.ret u), z => exact I.after z
  | .ok .next, z => cases z
  | .ok .brk, z => cases z
  | .ok .cont, z => cases z
/-- f(e, ..), f a def of known guards -/
theorem pe_callG (F : FnOkG X.prog X.w X.K X.mg X.base CX k f fd ps sp) (hr : Room k X.A) (hgd : X.A.guards = some []) (hg : Gl X x) (hm : X.mg x = some (.ref f)) (hk : PySem.W.keepIn X.K (.ref f) = true) (hb : Binds X.K fd ps ds) (hd : Vals dvs ds) (hx : Passes CX X E)
    (ha : PA X (e :: es) t) (hdb : (x == ("__debug__" : Str)) = false := by decide) (he : starEach (e :: es) X.env = (false, eval e X.env) :: starEach es X.env := by rfl) (hpl : (backTo pos (starEach es X.env)).any (·.1) = false := by rfl) :
    PE X (.Call (.Name x p) (e :: es) [] pos) (tCall sp dvs E t) := by
  constructor
  intro pins s σ H Q I h
  apply wpAny_Call_Name_kw
  apply ld_glob I hg hm _ hdb
  refine PySem.W.callWith_K (h₀ := X.base) I.ok.mod.kin hk (thn (ha.run pos pins s σ H _ I h) fun us s1 hh => ?_) he hpl
  obtain ⟨vs, H1, I1, r, q⟩ := hh
  exact ⟨I1.kIn, run_fnG F hr hgd hb hd hx I1 r q⟩
/-- repr(x) of data of any depth -/
def rRepr (K : PySem.W.Frag) (A : Around) : List V → Hp → VK → Prop := fun xs H Q => ∃ (a : Addr) (d : PyData), xs = [.ref a] ∧ Dp K H (.ref a) d ∧ A.guards = some [] ∧ d.showable = true ∧ d.hasDict = false ∧ d.depth ≤ 60 ∧ d.shown.length ≤ sizeLine ∧ Q (.str d.shown) H
theorem call_repr (hu : X.A.units + 64 < cLine) : CallR X (.builtin "repr") (rRepr X.K X.A) := by
  intro pins s σ H xs us Q I r h
  obtain ⟨a, d, rfl, hd, hg, h1, h2, h3, h4, q⟩ := h
  cases r with
  | cons rx rr =>
    cases rr
    obtain ⟨as, rd⟩ := Dp.reads I d _ _ hd rx
    cases rx
    refine repr_of_reads' (h₀ := s.heap) rd h1 (fun z => by rw [h2] at z; cases z) hg (by omega) (fun _ _ z => z) (fun h' u tk k => ?_) h4
    exact ⟨.str d.shown, H, I.kept (t' := tk) k, ⟨u, rfl⟩, q⟩
end
end L2
set_option Elab.async false
set_option linter.all false
set_option maxRecDepth 100000
set_option maxHeartbeats 2000000
namespace L2
open PySem PySem.Spec PyProof.Rows
/-! ### the law's own call, its guards known -/
theorem core_G {P : Program} {w : World} {K : PySem.W.Frag} {mg mb : Str → Option Value} {CX : CXT} {k : Nat} {fa a : Addr} {fd : FuncData} {x : Str} {sp : Sp} {s1 : Shared} {vs : List Value}
    (kin : K.In s1.heap) (glo : s1.heap.Ns mainGlobals mg) (blt : s1.heap.Ns builtinsNs mb) (bb : ∀ y : Str, y ≠ "__name__" → mb y = bootBuiltins y) (lim : s1.heap.NoLimit) (gens : s1.gens = #[])
    (at_a : s1.heap.get? a = some { cls := .type "list", data := .seq vs.toArray }) (room : Room k callerA)
    (F : ∀ base : Heap, K.In base → base.Ns mainGlobals mg → FnOkG P w K mg base CX k fa fd [x] sp) (bnd : ∀ (s : Shared) (u : Value), BindsTo s fd ⟨[u], []⟩ [(x, u)])
    (noX : ∀ H e s', CX [] H s1 (fun _ _ _ => False) e s' → False)
    (H : Hp) (only : Only H) (hok : HOk P w H s1.heap) (one : ∀ b, H b ≠ none → b = a) (unK : H a ≠ none → K.lookup a = none) (pre : sp [.ref a] H (fun v _ => v = .bl true) fun _ _ _ => False) :
    codeAny (model P w) callerA (.call (.ref fa) ⟨[.ref a], []⟩) (fun r s' => r = .ok (.ret (.bool true)) ∧ OldK s1.heap s'.heap ∧ s'.os = s1.os ∧ AllBare s'.gens) s1 := by
  have kept : ∀ {b : Addr} {o : Obj}, s1.heap.get? b = some o → H b = none → (hidT s1.heap H).get? b = some o := fun p q => hidT_get p q
  have dictFree : ∀ {b : Addr} {o : Obj} {es : Array DictEntry} {ep : Nat}, s1.heap.get? b = some o → o.data = .dict es ep → H b = none := by
    intro b o es ep p q
    cases z : H b with
    | none => rfl
    | some u =>
      obtain rfl : b = a := one b (by simp [z])
      rw [at_a] at p
      cases p
      cases q
  have nsOf : ∀ {b : Addr} {m : Str → Option Value}, s1.heap.Ns b m → (hidT s1.heap H).Ns b m := by
    rintro b m ⟨o, es, ep, p, q, r⟩
    exact ⟨o, es, ep, kept p (dictFree p q), q, r⟩
  have kinB : K.In (hidT s1.heap H) := by
    intro b o p
    refine kept (kin b o p) ?_
    cases z : H b with
    | none => rfl
    | some u =>
      obtain rfl : b = a := one b (by simp [z])
      rw [unK (by simp [z])] at p
      cases p
  obtain ⟨mc, c1, c2⟩ := lim
  have m0 : Mod K mg (hidT s1.heap H) := ⟨kinB, nsOf glo, ⟨mb, nsOf blt, bb⟩, ⟨mc, nsOf c1, c2⟩⟩
  have noFr : ∀ b : Addr, b ∉ frs [] := fun b hb => by cases hb
  have e0 : Env0 P w K mg (hidT s1.heap H) callerA [] s1 H := ⟨rfl, m0, fun b o p => of_hidT p, Nat.le_of_eq (hidT_size _ _), trivial, fun b hb => (noFr b hb).elim, hok, .of_eq gens⟩
  apply codeAny_mono ((F _ kinB (nsOf glo)).run callerA [] s1 H ⟨[.ref a], []⟩ [.ref a] [.ref a] _ _ room rfl e0 (bnd s1 (.ref a)) (.cons rfl .nil) pre)
  intro r s' z
  match r, z with
  | .error e, z => exact (noX H e s' z).elim
  | .ok .next, z => cases z
  | .ok .brk, z => cases z
  | .ok .cont, z => cases z
  | .ok (.ret u), z =>
    obtain ⟨v, H', os, bare, un, hok', rv, q⟩ := z
    cases (show v = .bl true from q)
    obtain rfl : u = Value.bool true := rv
    refine ⟨rfl, OldK.of_keep fun b o p => ?_, os, bare⟩
    cases z : H b with
    | none => exact un.keep b o p z (fun hb => noFr b hb) (by simp)
    | some u =>
      rcases only b with y | ⟨ob, xs, y⟩
      · rw [z] at y
        cases y
      · obtain ⟨p1, _⟩ := hok b _ y
        obtain ⟨p2, _⟩ := hok' b _ (un.frzs b ob _ y)
        rw [p] at p1
        cases p1
        exact p2
theorem law_callG {P : Program} {w : World} {K : PySem.W.Frag} {mg mb : Str → Option Value} {CX : CXT} {k : Nat} {fa a : Addr} {fd : FuncData} {x : Str} {sp : Sp} {s1 : Shared} {vs : List Value} {ns : List Int}
    (kin : K.In s1.heap) (glo : s1.heap.Ns mainGlobals mg) (blt : s1.heap.Ns builtinsNs mb) (bb : ∀ y : Str, y ≠ "__name__" → mb y = bootBuiltins y) (lim : s1.heap.NoLimit) (gens : s1.gens = #[])
    (at_a : s1.heap.get? a = some { cls := .type "list", data := .seq vs.toArray }) (hin : IntsAre vs ns) (hl : ns.length ≤ sizeLine) (room : Room k callerA)
    (F : ∀ base : Heap, K.In base → base.Ns mainGlobals mg → FnOkG P w K mg base CX k fa fd [x] sp) (bnd : ∀ (s : Shared) (u : Value), BindsTo s fd ⟨[u], []⟩ [(x, u)])
    (hsp : ∀ H : Hp, Only H → SqL K H a (ns.map V.int) → sp [.ref a] H (fun v _ => v = .bl true) fun _ _ _ => False) (noX : ∀ H e s', CX [] H s1 (fun _ _ _ => False) e s' → False) :
    codeAny (model P w) callerA (.call (.ref fa) ⟨[.ref a], []⟩) (fun r s' => r = .ok (.ret (.bool true)) ∧ OldK s1.heap s'.heap ∧ s'.os = s1.os ∧ AllBare s'.gens) s1 := by
  have rv := vals_ints hin
  have lenV := hin.length
  cases hk : K.lookup a with
  | some o =>
    have p := kin a o hk
    rw [at_a] at p
    cases p
    have no : Only fun _ => none := fun _ => .inl rfl
    refine core_G kin glo blt bb lim gens at_a room F bnd noX (fun _ => none) no (fun b u z => by cases z) (fun b z => absurd rfl z) (fun z => absurd rfl z) (hsp _ no ?_)
    exact .inr ⟨_, vs.toArray, _, hk, rfl, rfl, rfl, by rw [List.size_toArray, lenV]; exact hl, by simpa using rv⟩
  | none =>
    have on : Only (fun b => if b = a then some (.frz { cls := .type "list", data := .seq vs.toArray } (.lst (ns.map V.int))) else none) := by
      intro b
      by_cases hb : b = a
      · exact .inr ⟨_, _, if_pos hb⟩
      · exact .inl (if_neg hb)
    refine core_G kin glo blt bb lim gens at_a room F bnd noX _ on (fun b u z => ?_) (fun b z => ?_) (fun _ => hk) (hsp _ on (.inl (.inr ⟨{ cls := .type "list", data := .seq vs.toArray }, if_pos rfl⟩)))
    · by_cases hb : b = a
      · subst hb
        have y : some (HO.frz { cls := .type "list", data := .seq vs.toArray } (.lst (ns.map V.int))) = some u := (if_pos rfl).symm.trans z
        cases y
        exact ⟨at_a, by rw [List.length_map]; exact hl, vs, _, rv, at_a⟩
      · have y : (none : Option HO) = some u := (if_neg hb).symm.trans z
        cases y
    · by_cases hb : b = a
      · exact hb
      · exact absurd (if_neg hb) z
/-- the end of a law row, K known by what a head's look says of it -/
theorem walk_ofG {l : PySem.W.OpenLaw} {n k : Nat} {q : Program} {loose : List Str} {XP : (Str → Option Value) → Heap → Prop} {YP : World → Heap → Prop} {d : DefRec} {CX : CXT} {x : Str}
    (hn : l.most = some n) (hn2 : n ≤ sizeLine) (hdf : d.params.defaults = []) (hr : Room k callerA)
    (F : ∀ (w : World) (mg : Str → Option Value) (fa : Addr) (h : Heap), YP w h → h.Ns mainGlobals mg → mg d.name = some (.ref fa) →
      ∃ (K : PySem.W.Frag) (fd : FuncData) (sp : Sp), K.In h ∧ (∀ (s : Shared) (u : Value), BindsTo s fd ⟨[u], []⟩ [(x, u)]) ∧
        (∀ (H : Hp) (a : Addr) (ns : List Int), ns.length ≤ n → Only H → SqL K H a (ns.map V.int) → sp [.ref a] H (fun v _ => v = .bl true) fun _ _ _ => False) ∧
        ∀ base : Heap, K.In base → base.Ns mainGlobals mg → FnOkG l.prog w K mg base CX k fa fd [x] sp)
    (hCX : ∀ (H : Hp) (s : Shared) (e : Value) (s' : Shared), CX [] H s (fun _ _ _ => False) e s' → False) :
    PySem.W.WalkO q loose XP YP l.row.toRowW d [] (fun f vs => PySem.call f vs) := by
  refine Att.attach_call hn hdf fun w s0 s1 mg mb fa o pm cd doc a vs ns G Y ho hd hcd hmg hobj hints hlen hg => ?_
  obtain ⟨K, fd, sp, KX, hb, hsp, hF⟩ := F w mg fa _ Y G.T.g hmg
  exact law_callG KX G.T.g G.T.b G.T.builtins G.T.nolimit hg hobj hints (Nat.le_trans hlen hn2) hr hF hb (fun H hO hS => hsp H a ns hlen hO hS) fun H e s' => hCX H s1 e s'
end L2
set_option Elab.async false
set_option linter.all false
set_option maxRecDepth 100000
set_option maxHeartbeats 2000000
namespace L2
open PySem PySem.Spec PyProof.Rows
/-! ### len, repr, bool, in, ==, != of an own instance, by the class's own defs -/
abbrev noE : XK := fun _ _ _ => False
section
variable {X : Cx} {pins : List (Addr × Obj)} {σ : St} {H : Hp} {s : Shared}
theorem ins_at {a C dx : Addr} {fs : List (Str × V)} (I : Inv X pins σ H s) (ha : H a = some (.ins C dx fs)) : ∃ od, PySem.W.InstAt s.heap a (PySem.W.instObj C dx) C (some od) := by
  have z : ObjOk X.prog X.w H s.heap a (.ins C dx fs) := I.hok a _ ha
  obtain ⟨_, _, _, e, mA, hns, _⟩ := z
  obtain ⟨od, ho, _⟩ := lookIn_ns hns
  exact ⟨od, e, rfl, rfl, ho⟩
theorem run1 {k : Nat} {f : Addr} {fd : FuncData} {ps : List Str} {sp : Sp} {Q : VK} {us : List Value} {vs : List V} (F : FnOk X.prog X.w X.K X.mg X.base CX0 k f fd ps sp) (hr : Room (k + 1) X.A) (hb : Binds X.K fd ps [])
    (I : Inv X pins σ H s) (r : Vals vs us) (h : sp vs H Q noE) : wpAny (model X.prog X.w) X.A.in1 (call (.ref f) us) (EP X pins σ Q) X.xe s := by
  have hl : us.length = ps.length := r.length ▸ F.len _ _ _ _ h
  have bd : BindsTo s fd ⟨us, []⟩ (ps.zip us) := by
    have z := hb s us I.kIn (by simpa using hl)
    rwa [List.append_nil] at z
  apply wpAny_call
  apply codeAny_mono (F.run X.A.in1 X.stack s H ⟨us, []⟩ us vs Q noE hr.in1 I.env0.in1 bd r h)
  intro r s' z
  match r, z with
  | .error e, z => cases z
  | .ok (.ret u), z => exact I.after z
  | .ok .next, z => cases z
  | .ok .brk, z => cases z
  | .ok .cont, z => cases z
theorem run0 {k : Nat} {f : Addr} {fd : FuncData} {ps : List Str} {sp : Sp} {Q : VK} {us : List Value} {vs : List V} (F : FnOk X.prog X.w X.K X.mg X.base CX0 k f fd ps sp) (hr : Room k X.A) (hb : Binds X.K fd ps [])
    (I : Inv X pins σ H s) (r : Vals vs us) (h : sp vs H Q noE) : wpAny (model X.prog X.w) X.A (call (.ref f) us) (EP X pins σ Q) X.xe s := by
  have hl : us.length = ps.length := r.length ▸ F.len _ _ _ _ h
  have bd : BindsTo s fd ⟨us, []⟩ (ps.zip us) := by
    have z := hb s us I.kIn (by simpa using hl)
    rwa [List.append_nil] at z
  apply wpAny_call
  apply codeAny_mono (F.run X.A X.stack s H ⟨us, []⟩ us vs Q noE hr I.env0 bd r h)
  intro r s' z
  match r, z with
  | .error e, z => cases z
  | .ok (.ret u), z => exact I.after z
  | .ok .next, z => cases z
  | .ok .brk, z => cases z
  | .ok .cont, z => cases z
end
/-- the class at C has the def at f under the special name m -/
structure Spec1 (K : PySem.W.Frag) (C : Addr) (m : Str) (f : Addr) : Prop where
  at_ : PySem.W.findIn K (.ref C) m = some (some (.ref f))
  fn : PySem.W.isFn K (.ref f) = true
section
variable {X : Cx} {C f : Addr} {fd : FuncData} {sp : Sp} {k : Nat}
def rLenI (C : Addr) (sp : Sp) : List V → Hp → VK → Prop := fun xs H Q => ∃ a dx fs, xs = [V.ref a] ∧ H a = some (.ins C dx fs) ∧ sp [.ref a] H (fun v H' => ∃ n : Int, v = .int n ∧ 0 ≤ n ∧ n < 2 ^ 63 ∧ Q (.int n) H') noE
theorem call_lenI (S : Spec1 X.K C "__len__" f) (F : FnOk X.prog X.w X.K X.mg X.base CX0 k f fd ["self"] sp) (hr : Room (k + 1) X.A) (hb : Binds X.K fd ["self"] []) : CallR X (.builtin "len") (rLenI C sp) := by
  intro pins s σ H xs us Q I r h
  obtain ⟨a, dx, fs, rfl, ha, q⟩ := h
  obtain ⟨od, J⟩ := ins_at I ha
  obtain ⟨m, fr⟩ := I.fr
  cases r with
  | cons rx rr =>
    cases rr
    cases rx
    refine PySem.W.len_K fr I.ok.mod.kin J S.at_ S.fn (wpAny_mono (run1 (vs := [.ref a]) F hr hb I (.cons rfl .nil) q) (fun v s' z => ?_) fun _ _ z => z)
    obtain ⟨y, H', I', ry, n, ey, h0, h1, q'⟩ := z
    subst ey
    obtain ⟨t, rfl⟩ := ry
    exact ⟨⟨h0, h1⟩, .int n, H', I'.tok _, ⟨_, rfl⟩, q'⟩
def rReprI (C : Addr) (sp : Sp) : List V → Hp → VK → Prop := fun xs H Q => ∃ a dx fs, xs = [V.ref a] ∧ H a = some (.ins C dx fs) ∧ sp [.ref a] H (fun v H' => ∃ z : Str, v = .str z ∧ Q (.str z) H') noE
theorem call_reprI (S : Spec1 X.K C "__repr__" f) (F : FnOk X.prog X.w X.K X.mg X.base CX0 k f fd ["self"] sp) (hr : Room (k + 1) X.A) (hb : Binds X.K fd ["self"] []) : CallR X (.builtin "repr") (rReprI C sp) := by
  intro pins s σ H xs us Q I r h
  obtain ⟨a, dx, fs, rfl, ha, q⟩ := h
  obtain ⟨od, J⟩ := ins_at I ha
  obtain ⟨m, fr⟩ := I.fr
  cases r with
  | cons rx rr =>
    cases rr
    cases rx
    have hu : X.A.in1.units < cLine := by
      have := hr.un
      show X.A.units + 1 < cLine
      omega
    refine PySem.W.repr_K hu fr I.ok.mod.kin J S.at_ S.fn (wpAny_mono (run1 (vs := [.ref a]) F hr hb I (.cons rfl .nil) q) (fun v s' z => ?_) fun _ _ z => z)
    obtain ⟨y, H', I', ry, n, ey, q'⟩ := z
    subst ey
    obtain ⟨t, rfl⟩ := ry
    exact ⟨.str n, H', I', ⟨_, rfl⟩, q'⟩
def rInI (C : Addr) (sp : Sp) (neg : Bool) : R2 := fun x y H Q => ∃ a dx fs, y = V.ref a ∧ H a = some (.ins C dx fs) ∧ sp [.ref a, x] H (fun v H' => ∃ b : Bool, v = .bl b ∧ Q (.bl (b != neg)) H') noE
theorem op_inI (S : Spec1 X.K C "__contains__" f) (F : FnOk X.prog X.w X.K X.mg X.base CX0 k f fd ["self", "value"] sp) (hr : Room k X.A) (hb : Binds X.K fd ["self", "value"] []) : OpR X (compareOp .In) (rInI C sp false) := by
  intro pins s σ H x y v u Q I rx ry h
  obtain ⟨a, dx, fs, rfl, ha, q⟩ := h
  obtain ⟨od, J⟩ := ins_at I ha
  obtain ⟨m, fr⟩ := I.fr
  cases ry
  refine PySem.W.in_K fr I.ok.mod.kin J S.at_ S.fn (wpAny_mono (run0 (vs := [.ref a, x]) F hr hb I (.cons rfl (.cons rx .nil)) q) (fun v s' z => ?_) fun _ _ z => z)
  obtain ⟨y, H', I', ry, b, ey, q'⟩ := z
  subst ey
  cases ry
  exact wpAny_truthy_bool ⟨.bl b, H', I', rfl, by simpa using q'⟩
theorem op_notInI (S : Spec1 X.K C "__contains__" f) (F : FnOk X.prog X.w X.K X.mg X.base CX0 k f fd ["self", "value"] sp) (hr : Room k X.A) (hb : Binds X.K fd ["self", "value"] []) : OpR X (compareOp .NotIn) (rInI C sp true) := by
  intro pins s σ H x y v u Q I rx ry h
  obtain ⟨a, dx, fs, rfl, ha, q⟩ := h
  obtain ⟨od, J⟩ := ins_at I ha
  obtain ⟨m, fr⟩ := I.fr
  cases ry
  refine PySem.W.notIn_K fr I.ok.mod.kin J S.at_ S.fn (wpAny_mono (run0 (vs := [.ref a, x]) F hr hb I (.cons rfl (.cons rx .nil)) q) (fun v s' z => ?_) fun _ _ z => z)
  obtain ⟨y, H', I', ry, b, ey, q'⟩ := z
  subst ey
  cases ry
  exact wpAny_truthy_bool ⟨.bl (!b), H', I', rfl, by simpa using q'⟩
end
end L2
set_option Elab.async false
set_option linter.all false
set_option maxRecDepth 100000
set_option maxHeartbeats 2000000
namespace PySem
namespace NeX
open PySem.W
variable {prog : Program} {w : World} {M : Model} {A : Around} {E : Value → Shared → Prop} {s : Shared} {K : Frag} {x C f L : Addr} {h₀ : Heap} {m : Str → Option Value} {ox : Obj} {od : Option Obj} {b tb : Value}
/-- the built-in != of objects asks the class's own == and turns its answer -/
theorem ne_entry {Q : Fin → Shared → Prop} (hu : A.units < cLine) (X : K.In s.heap) (I : InstAt s.heap x ox C od) (hs : findIn K (.ref C) "__eq__" = some (some (.ref f))) (hf : isFn K (.ref f) = true)
    (h : wpAny M A (call (.ref f) [.ref x, b]) (fun v s' => ∃ k, v = .bool k ∧ Q (.done (.ret (.bool (!k)))) s') E s) : wpAny M A (Builtin.«object.__ne__» ⟨[.ref x, b], []⟩) Q E s := by
  unfold Builtin.«object.__ne__»
  repeat (first
    | with_reducible refine wpAny_cRoomFor hu ?_
    | (refine wpAny_bind (m := callSpecialIfBound? (.ref x) (Str.ofString "__eq__") [b]) (ifBound_K X I hs hf (wpAny_mono h (fun r s' hr => by
          obtain ⟨k, rfl, hq⟩ := hr
          repeat (first | exact hq | exact wpAny_pure hq | exact wpAny_truthy_bool hq | (refine wpAny_bind (m := truthy (.bool _)) (wpAny_truthy_bool ?_)) | wp_step)) fun _ _ e => e)))
    | wp_step)
theorem ne_call {Q : Value → Shared → Prop} (hu : A.units + 1 < cLine) (X : K.In s.heap) (I : InstAt s.heap x ox C od) (hm : mroIn K C (.type "object") = some true) (hs : findIn K (.ref C) "__eq__" = some (some (.ref f))) (hf : isFn K (.ref f) = true)
    (h : wpAny (model prog w) A.in1 (call (.ref f) [.ref x, b]) (fun v s' => ∃ k, v = .bool k ∧ Q (.bool (!k)) s') E s) : wpAny (model prog w) A (call (.builtin "object.__ne__") [.ref x, b]) Q E s := by
  refine wpAny_call (codeAny_call_builtin F.cmp_object.ne.plain F.cmpEntry_ne (check_slot F.cmpKind_ne F.cmpSplit_ne (I.type.andThen (looks_mroIn X hm)) (F.cmpArgs_ne _ _) (ne_entry (A := A.in1) hu X I hs hf ?_)))
  refine wpAny_mono h (fun v s' z => ?_) fun _ _ e => e
  obtain ⟨k, rfl, q⟩ := z
  exact ⟨k, rfl, q⟩
theorem ne_bound {Q : Option Value → Shared → Prop} (X : K.In s.heap) (I : InstAt s.heap x ox C od) (hs : findIn K (.ref C) "__ne__" = some (some (.builtin "object.__ne__")))
    (h : wpAny M A (call (.builtin "object.__ne__") [.ref x, b]) (fun v => Q (some v)) E s) : wpAny M A (callSpecialIfBound? (.ref x) "__ne__" [b]) Q E s := by
  simp only [callSpecialIfBound?, bindSpecialIfBound?]
  apply wpAny_holding
  apply wpAny_bind
  apply wpAny_bind
  apply wpAny_bind
  apply I.type.here
  apply (looks_findIn X hs).here
  have done : wpAny M A (call (.builtin "object.__ne__") ([.ref x] ++ [b]) >>= fun v => pure (some v)) Q E s := wpAny_bind (wpAny_mono h (fun v s' z => wpAny_pure z) fun _ _ z => z)
  refine wpAny_bind (wpAny_askSetting (wpAny_ite ?_))
  split
  · exact wpAny_bind (wpAny_of_eq (F.cmp_object.ne.bind _) (wpAny_pure (by exact done)))
  · exact wpAny_tryCatch (wpAny_bind (wpAny_of_eq (F.cmp_object.ne.bind _) (wpAny_pure (by exact done))))
theorem ne_own {Q : Value → Shared → Prop} (hu : A.units + 1 < cLine) (X : K.In s.heap) (I : InstAt s.heap x ox C od) (hb : Looks (model prog w) s.heap (typeOf b) tb) (hn : notFirst K C tb = true) (hm : mroIn K C (.type "object") = some true)
    (he : findIn K (.ref C) "__eq__" = some (some (.ref f))) (hf : isFn K (.ref f) = true) (hs : findIn K (.ref C) "__ne__" = some (some (.builtin "object.__ne__")))
    (h : wpAny (model prog w) A.in1 (call (.ref f) [.ref x, b]) (fun v s' => ∃ k, v = .bool k ∧ Q (.bool (!k)) s') E s) : wpAny (model prog w) A (compareOp .NotEq (.ref x) b) Q E s := by
  have one : wpAny (model prog w) A (tryCompare (.ref x) "__ne__" b) (fun r s' => ∃ v, r = some v ∧ Q v s') E s := by
    unfold tryCompare
    refine wpAny_bind (ne_bound X I hs (ne_call hu X I hm he hf (wpAny_mono h (fun v s' z => ?_) fun _ _ z => z)))
    obtain ⟨k, rfl, q⟩ := z
    exact ⟨k, rfl, wpAny_pure ⟨_, rfl, q⟩⟩
  show wpAny _ _ (richCompare .NotEq (.ref x) b) _ _ _
  unfold richCompare
  simp only [oneThing_ref, cmpInfo_NotEq]
  apply wpAny_holding
  refine wpAny_bind (wpAny_cRoomFor (Nat.lt_of_succ_lt hu) (wpAny_bind (I.type.here (wpAny_bind (hb.here ?_)))))
  have tail : wpAny (model prog w) A (tryCompare (.ref x) "__ne__" b) (fun r s' => wpAny (model prog w) A (match r with | some v => pure v | none => richCompare .NotEq (.ref x) b) (fun v s'' => Q v s'') E s') E s := wpAny_mono one (fun r s' z => by
    obtain ⟨v, rfl, q⟩ := z
    exact wpAny_pure q) fun _ _ z => z
  split
  · rename_i ne
    have e : subIn K tb (.ref C) = some false := by
      cases Bool.or_eq_true_iff.mp hn with
      | inl e =>
        rw [beq_iff_eq.mp e] at ne
        simp at ne
      | inr e => exact beq_iff_eq.mp e
    refine wpAny_bind ((looks_subIn X e).here ?_)
    simp only [Bool.false_eq_true, if_false]
    refine wpAny_bind (wpAny_mono one (fun r s' z => ?_) fun _ _ z => z)
    obtain ⟨v, rfl, q⟩ := z
    exact wpAny_pure q
  · refine wpAny_bind (wpAny_pure ?_)
    simp only [Bool.false_eq_true, if_false]
    refine wpAny_bind (wpAny_mono one (fun r s' z => ?_) fun _ _ z => z)
    obtain ⟨v, rfl, q⟩ := z
    exact wpAny_pure q
end NeX
end PySem
namespace L2
open PySem PySem.Spec PyProof.Rows
section
variable {X : Cx} {C f : Addr} {fd : FuncData} {sp : Sp} {k : Nat}
/-- x == y, x an instance whose class has its own __eq__, y of a known type that is not below it -/
def rEqI (K : PySem.W.Frag) (C : Addr) (sp : Sp) (neg : Bool) : R2 := fun x y H Q => ∃ a dx fs t, x = V.ref a ∧ H a = some (.ins C dx fs) ∧ TyX K H y t ∧ PySem.W.notFirst K C t = true ∧ sp [.ref a, y] H (fun v H' => ∃ b : Bool, v = .bl b ∧ Q (.bl (b != neg)) H') noE
theorem op_eqI (S : Spec1 X.K C "__eq__" f) (F : FnOk X.prog X.w X.K X.mg X.base CX0 k f fd ["self", "other"] sp) (hr : Room k X.A) (hb : Binds X.K fd ["self", "other"] []) : OpR X (compareOp .Eq) (rEqI X.K C sp false) := by
  intro pins s σ H x y v u Q I rx ry h
  obtain ⟨a, dx, fs, t, rfl, ha, ty, hn, q⟩ := h
  obtain ⟨od, J⟩ := ins_at I ha
  obtain ⟨m, fr⟩ := I.fr
  obtain ⟨P, Z, p, _⟩ := kit_of I ry ty
  cases rx
  have hu : X.A.units < cLine := by
    have := hr.un
    omega
  refine PySem.W.cmp_ofEq (PySem.W.cmp_K (op := .Eq) hu fr I.ok.mod.kin J (Z.ty _ _ I.kIn p) hn S.at_ S.fn (wpAny_mono (run0 (vs := [.ref a, y]) F hr hb I (.cons rfl (.cons ry .nil)) q) (fun v s' z => ?_) fun _ _ z => z))
  obtain ⟨y', H', I', ry', b, ey, q'⟩ := z
  subst ey
  cases ry'
  exact ⟨.bl b, H', I', rfl, by simpa using q'⟩
theorem op_neI (S : Spec1 X.K C "__eq__" f) (hm : PySem.W.mroIn X.K C (.type "object") = some true) (hs : PySem.W.findIn X.K (.ref C) "__ne__" = some (some (.builtin "object.__ne__"))) (F : FnOk X.prog X.w X.K X.mg X.base CX0 k f fd ["self", "other"] sp) (hr : Room (k + 1) X.A) (hb : Binds X.K fd ["self", "other"] []) :
    OpR X (compareOp .NotEq) (rEqI X.K C sp true) := by
  intro pins s σ H x y v u Q I rx ry h
  obtain ⟨a, dx, fs, t, rfl, ha, ty, hn, q⟩ := h
  obtain ⟨od, J⟩ := ins_at I ha
  obtain ⟨P, Z, p, _⟩ := kit_of I ry ty
  cases rx
  have hu : X.A.units + 1 < cLine := by
    have := hr.un
    omega
  refine PySem.NeX.ne_own hu I.kIn J (Z.ty _ _ I.kIn p) hn hm S.at_ S.fn hs (wpAny_mono (run1 (vs := [.ref a, y]) F hr hb I (.cons rfl (.cons ry .nil)) q) (fun v s' z => ?_) fun _ _ z => z)
  obtain ⟨y', H', I', ry', b, ey, q'⟩ := z
  subst ey
  cases ry'
  exact ⟨b, rfl, .bl (!b), H', I', rfl, by simpa using q'⟩
end
end L2
set_option Elab.async false
set_option linter.all false
set_option maxRecDepth 100000
set_option maxHeartbeats 2000000
namespace PySem
namespace BlX
open PySem.W
variable {prog : Program} {w : World} {A : Around} {E : Value → Shared → Prop} {s : Shared} {K : Frag} {x C f : Addr} {ox : Obj} {od : Option Obj}
theorem len_own {Q : Value → Shared → Prop} (X : K.In s.heap) (I : InstAt s.heap x ox C od) (hs : findIn K (.ref C) "__len__" = some (some (.ref f))) (hf : isFn K (.ref f) = true)
    (h : wpAny (model prog w) A (call (.ref f) [.ref x]) (LenBack Q) E s) : wpAny (model prog w) A (Builtin.«len» ⟨[.ref x], []⟩) (fun fin s' => ∃ r, fin = .done (.ret r) ∧ Q r s') E s := by
  unfold Builtin.«len»
  apply wpAny_bind (m := oneArg "len" _)
  apply wpAny_pure
  refine wpAny_bind (m := callSpecial? (.ref x) (Str.ofString "__len__")) (special_fn X I hs (beq_iff_eq.mp hf) (wpAny_mono h (fun r s' hr => ?_) fun _ _ y => y))
  cases r <;> first | exact hr.elim | skip
  rename_i n u
  obtain ⟨⟨h0, h1⟩, hq⟩ := hr
  refine wpAny_bind (wpAny_holding (wpAny_pure (wpAny_bind (wpAny_letGo ?_))))
  have e0 : ¬ n < 0 := by omega
  have e1 : ¬ n ≥ 2 ^ 63 := by omega
  change wpAny _ _ (if n < 0 then _ else _) _ _ _
  rw [if_neg e0]
  change wpAny _ _ (if n ≥ 2 ^ 63 then _ else _) _ _ _
  rw [if_neg e1]
  exact wpAny_bind (wpAny_mkInt (wpAny_pure ⟨_, rfl, hq⟩))
theorem truthy_own {Q : Bool → Shared → Prop} (X : K.In s.heap) (I : InstAt s.heap x ox C od) (hb : findIn K (.ref C) "__bool__" = some none) (hs : findIn K (.ref C) "__len__" = some (some (.ref f))) (hf : isFn K (.ref f) = true)
    (h : wpAny (model prog w) A.in1 (call (.ref f) [.ref x]) (LenBack fun v s' => match v with | .int n _ => Q (n != 0) s' | _ => False) E s) : wpAny (model prog w) A (truthy (.ref x)) Q E s := by
  have key : wpAny (model prog w) A (runValue (.builtin "len" ⟨[.ref x], []⟩)) (fun v s' => match v with | .int n _ => Q (n != 0) s' | _ => False) E s := by
    refine wpAny_runValue (codeAny_builtin entry_len ?_)
    rw [Around.under_plainId plain_len _]
    refine wpAny_mono (len_own X I hs hf h) (fun fin s' z => ?_) fun _ _ z => z
    obtain ⟨r, rfl, hq⟩ := z
    exact hq
  unfold truthy
  refine wpAny_bind (m := callSpecial? (.ref x) (Str.ofString "__bool__")) (wpAny_bind (wpAny_bind (I.type.here ((looks_findIn X hb).here (wpAny_pure ?_)))))
  refine wpAny_bind (wpAny_bind (I.type.here ((looks_findIn X hs).here ?_)))
  refine wpAny_bind (wpAny_mono key (fun r s' z => ?_) fun _ _ z => z)
  cases r <;> first | exact z.elim | exact wpAny_pure z
theorem bool_own {Q : Value → Shared → Prop} (X : K.In s.heap) (I : InstAt s.heap x ox C od) (hb : findIn K (.ref C) "__bool__" = some none) (hs : findIn K (.ref C) "__len__" = some (some (.ref f))) (hf : isFn K (.ref f) = true)
    (h : wpAny (model prog w) A.in1.in1.in1 (call (.ref f) [.ref x]) (LenBack fun v s' => match v with | .int n _ => Q (.bool (n != 0)) s' | _ => False) E s) : wpAny (model prog w) A (call (.type "bool") [.ref x]) Q E s := by
  refine ks_callType_codesW (Q₁ := fun obj s1 => (∃ k, obj = .bool k) ∧ Q obj s1) F.called_bool (fun q => wpAny_of_eq (F.typeCall_bool_1 _) q) F.entry_object_init ?_ ?_
  · apply codeAny_of_tree
    change wpAny _ A.in1.in1 (do checkBuiltinCall "bool.__new__" ⟨[.type "bool", .ref x], []⟩; again (.builtin "bool.__new__" ⟨[.type "bool", .ref x], []⟩)) _ _ s
    have pl : plainId "bool.__new__" = true := by decide +kernel
    refine wpAny_bind (wpAny_of_eq (F.newCall_bool_1 _) (wpAny_pure ⟨plainId_quiet pl _, codeAny_builtin F.entry_bool_new ?_⟩))
    rw [Around.under_plainId pl _]
    have f1 := F.conv_sub_bool
    obtain ⟨hp, g, d, tk, os⟩ := s
    have tr : ∀ {R : Bool → Shared → Prop}, (∀ k s', Q (.bool k) s' → R k s') → wpAny (model prog w) A.in1.in1 (truthy (.ref x)) R E ⟨hp, g, d, tk, os⟩ := fun {R} q => truthy_own X I hb hs hf (wpAny_mono h (fun v s' z => by
      cases v <;> first | exact z.elim | skip
      exact ⟨z.1, q _ _ z.2⟩) fun _ _ z => z)
    repeat (any_goals (first | assumption | (with_reducible refine tr ?_) | wp_step))
    intro k s' z
    exact wpAny_pure ⟨⟨k, rfl⟩, z⟩
  · intro obj s1 hq
    obtain ⟨⟨k, rfl⟩, hq⟩ := hq
    refine ⟨rfl, F.args_object_init_2 _ _, ?_⟩
    exact object_init_meets (self := .bool k) (rest := [.ref x]) F.called_bool.init.lookup F.called_bool.made F.newNe_bool prog w A.in1 _ s1 ⟨rfl, rfl, hq⟩
end BlX
end PySem
namespace L2
open PySem PySem.Spec PyProof.Rows
section
variable {X : Cx} {C f : Addr} {fd : FuncData} {sp : Sp} {k : Nat}
theorem runA {pins : List (Addr × Obj)} {σ : St} {H : Hp} {s : Shared} {A : Around} {ps : List Str} {Q : VK} {us : List Value} {vs : List V} (F : FnOk X.prog X.w X.K X.mg X.base CX0 k f fd ps sp) (hr : Room k A) (e0 : Env0 X.prog X.w X.K X.mg X.base A X.stack s H) (hb : Binds X.K fd ps [])
    (I : Inv X pins σ H s) (r : Vals vs us) (h : sp vs H Q noE) : wpAny (model X.prog X.w) A (call (.ref f) us) (EP X pins σ Q) X.xe s := by
  have hl : us.length = ps.length := r.length ▸ F.len _ _ _ _ h
  have bd : BindsTo s fd ⟨us, []⟩ (ps.zip us) := by
    have z := hb s us I.kIn (by simpa using hl)
    rwa [List.append_nil] at z
  apply wpAny_call
  apply codeAny_mono (F.run A X.stack s H ⟨us, []⟩ us vs Q noE hr e0 bd r h)
  intro r s' z
  match r, z with
  | .error e, z => cases z
  | .ok (.ret u), z => exact I.after z
  | .ok .next, z => cases z
  | .ok .brk, z => cases z
  | .ok .cont, z => cases z
def rBoolI (C : Addr) (sp : Sp) : List V → Hp → VK → Prop := fun xs H Q => ∃ a dx fs, xs = [V.ref a] ∧ H a = some (.ins C dx fs) ∧ sp [.ref a] H (fun v H' => ∃ n : Int, v = .int n ∧ 0 ≤ n ∧ n < 2 ^ 63 ∧ Q (.bl (n != 0)) H') noE
theorem call_boolI (S : Spec1 X.K C "__len__" f) (nb : PySem.W.findIn X.K (.ref C) "__bool__" = some none) (F : FnOk X.prog X.w X.K X.mg X.base CX0 k f fd ["self"] sp) (hr : Room (k + 3) X.A) (hb : Binds X.K fd ["self"] []) : CallR X (.type "bool") (rBoolI C sp) := by
  intro pins s σ H xs us Q I r h
  obtain ⟨a, dx, fs, rfl, ha, q⟩ := h
  obtain ⟨od, J⟩ := ins_at I ha
  cases r with
  | cons rx rr =>
    cases rr
    cases rx
    refine PySem.BlX.bool_own I.kIn J nb S.at_ S.fn (wpAny_mono (runA (vs := [.ref a]) F hr.in1.in1.in1 I.env0.in1.in1.in1 hb I (.cons rfl .nil) q) (fun v s' z => ?_) fun _ _ z => z)
    obtain ⟨y, H', I', ry, n, ey, h0, h1, q'⟩ := z
    subst ey
    obtain ⟨t, rfl⟩ := ry
    exact ⟨⟨h0, h1⟩, .bl (n != 0), H', I'.tok _, rfl, q'⟩
end
end L2
set_option Elab.async false
set_option linter.all false
set_option maxRecDepth 100000
set_option maxHeartbeats 2000000
namespace PySem
namespace SoX
open PySem.W PyProof.Rows PySem.Calls
variable {prog : Program} {w : World} {A : Around} {E : Value → Shared → Prop} {s : Shared} {β : Type} {R : Value → β → Prop} {enc : β → PyData} {vs : List Value} {bs : List β}
/-- sorted(x), x a list or a tuple of data of one shape -/
theorem sorted_seq {l : Addr} {T : String} {o : Obj} {n : Nat} {Q : Value → Shared → Prop} (hT : T = "list" ∨ T = "tuple") (ho : s.heap.get? l = some o) (hc : o.cls = .type T) (hd : o.data = .seq vs.toArray n)
    (e : EachIs R vs bs) (er : EachIs (fun v b => ∃ as, Reads s.heap v (enc b) as) vs bs) (hal : AllAlike (bs.map enc)) (hk : Sortable (bs.map enc)) (hL : bs.length ≤ sizeLine) (hu : ∀ b, b ∈ bs → A.units + 2 + (enc b).depth < cLine)
    (h : ∀ (h' : Heap) (d : Addr) (out : List Value), (∀ b o, s.heap.get? b = some o → h'.get? b = some o) → s.heap.get? d = none → (∃ k, h'.get? d = some (seqObj "list" out.toArray k)) → out.length = bs.length → EachIs R out (bs.mergeSort (dataLe false enc)) → Q (.ref d) { s with heap := h' }) :
    wpAny (model prog w) A (call (.builtin "sorted") [.ref l]) Q E s := by
  have hz : vs.length ≤ sizeLine := e.length ▸ hL
  apply Calls.call_function_entry kind_sorted plain_sorted entry_sorted (args_sorted1 _)
  unfold Builtin.«sorted»
  apply wpAny_bind (m := checkCount "sorted" 1 1 _)
  apply wpAny_pure
  refine wpAny_bind (wpAny_collect_seq l hT ho hc hd (fun h1 k1 => ?_) (by simpa using hz))
  refine wpAny_bind (wpAny_newList ?_ (by simpa using hz))
  have at1 : (h1.push (seqObj "list" vs.toArray 0)).get? h1.objs.size = some (seqObj "list" vs.toArray 0) := Heap.get?_push_size _ rfl
  have kp : ∀ b o, s.heap.get? b = some o → (h1.push (seqObj "list" vs.toArray 0)).get? b = some o := fun b o z => Heap.get?_push_of_some _ (k1 b o z)
  change wpAny _ _ _ _ _ { s with heap := h1.push (seqObj "list" vs.toArray 0) }
  have nb : ∀ b o, s.heap.get? b = some o → b ≠ h1.objs.size := fun b o z => Nat.ne_of_lt (Heap.lt_size (k1 b o z))
  have er' : EachIs (fun v b => ∃ as, Reads (sortingHeap (h1.push (seqObj "list" vs.toArray 0)) h1.objs.size vs) v (enc b) as) vs bs := er.mono fun _ _ ⟨as, r⟩ => ⟨as, PyProof.Rows.Reads.keeps (fun b o z => sortingHeap_old (nb b o z) (kp b o z)) r⟩
  refine wpAny_bind (wpAny_holding (wpAny_call_entry slot_list_sort ⟨_, at1, rfl⟩ entry_list_sort (list_sort_vals (κ := dataKind (sortingHeap (h1.push (seqObj "list" vs.toArray 0)) h1.objs.size vs) (bs.map enc)) at1
    (SortsAt.data (s := { s with heap := sortingHeap (h1.push (seqObj "list" vs.toArray 0)) h1.objs.size vs }) (each_map (R := fun v d => ∃ as, Reads (sortingHeap (h1.push (seqObj "list" vs.toArray 0)) h1.objs.size vs) v d as) enc er') hal hk (bound_map hu)) hz ⟨.none, rfl, ?_⟩) (args_list_sort _)))
  refine wpAny_pure ⟨_, rfl, h _ _ _ (fun b o z => ?_) ?_ (sortedHeap_at at1) (by rw [sortVals_length false rfl]; exact e.length) (sortVals_data false e er' hal)⟩
  · rw [sortedHeap_old (nb b o z) (Heap.lt_size (kp b o z))]
    exact kp b o z
  · cases z : s.heap.get? h1.objs.size with
    | none => rfl
    | some o => exact absurd rfl (nb _ o z)
end SoX
end PySem
namespace L2
open PySem PySem.Spec PyProof.Rows
theorem ObjOk.some_at {P : Program} {w : World} {H : Hp} {h : Heap} {a : Addr} {o : HO} (x : ObjOk P w H h a o) : ∃ u, h.get? a = some u := by
  cases o with
  | lst xs => obtain ⟨_, _, _, _, e⟩ := x; exact ⟨_, e⟩
  | tup xs => obtain ⟨_, _, _, p, e, _⟩ := x; exact ⟨_, e⟩
  | dK kvs => obtain ⟨_, _, _, _, o, _, _, e, _⟩ := x; exact ⟨_, e⟩
  | dT kvs => obtain ⟨_, _, _, _, o, _, _, e, _⟩ := x; exact ⟨_, e⟩
  | set S n => obtain ⟨o, _, _, _, e, _⟩ := x; exact ⟨_, e⟩
  | ins C dx fs => obtain ⟨_, _, _, e, _⟩ := x; exact ⟨_, e⟩
  | own y => exact x
  | xd fs => obtain ⟨_, ⟨_, _, _, e, _⟩, _⟩ := x; exact ⟨_, e⟩
  | rng lo hi => obtain ⟨_, _, _, e⟩ := x; exact ⟨_, e⟩
  | frz ob u => exact ⟨_, x.1⟩
  | tbl ps => exact ⟨_, x⟩
  | met f y => exact ⟨_, x⟩
  | ext φ => exact x.2.1
theorem HOk.none_at {P : Program} {w : World} {H : Hp} {h : Heap} {a : Addr} (x : HOk P w H h) (e : h.get? a = none) : H a = none := by
  cases z : H a with
  | none => rfl
  | some o =>
    obtain ⟨u, q⟩ := (x a o z).some_at
    rw [e] at q
    cases q
section
variable {X : Cx} {β : Type} {enc : β → PyData}
open PySem.W (EachIs dataLe AllAlike Sortable)
theorem each_of {K : PySem.W.Frag} {H : Hp} {all : List V} : ∀ {vs : List V} {us : List Value} {bs : List β}, (∀ v ∈ vs, v ∈ all) → Vals vs us → Paired (fun v b => Dp K H v (enc b)) vs bs → EachIs (fun u b => ∃ v, RelV v u ∧ v ∈ all ∧ Dp K H v (enc b)) us bs
  | _, _, _, _, .nil, .nil => .nil
  | _, _, _, m, .cons r rr, .cons d dd => .cons ⟨_, r, m _ (List.mem_cons_self ..), d⟩ (each_of (fun v hv => m v (List.mem_cons_of_mem _ hv)) rr dd)
theorem of_each {K : PySem.W.Frag} {H : Hp} {all : List V} : ∀ {us : List Value} {bs : List β}, EachIs (fun u b => ∃ v, RelV v u ∧ v ∈ all ∧ Dp K H v (enc b)) us bs → ∃ vs, Vals vs us ∧ Paired (fun v b => Dp K H v (enc b) ∧ v ∈ all) vs bs
  | _, _, .nil => ⟨[], .nil, .nil⟩
  | _, _, .cons ⟨v, r, m, d⟩ t => by
    obtain ⟨vs, h1, h2⟩ := of_each t
    exact ⟨v :: vs, .cons r h1, .cons ⟨d, m⟩ h2⟩
/-- sorted(x), x a list or a tuple of data that read as bs by enc: a new list of these, in the order of their data -/
def rSortA (K : PySem.W.Frag) (enc : β → PyData) : List V → Hp → VK → Prop := fun xs H Q => ∃ (a : Addr) (vs : List V) (bs : List β), xs = [.ref a] ∧ (SqL K H a vs ∨ SqT K H a vs) ∧ Paired (fun v b => Dp K H v (enc b)) vs bs ∧
  AllAlike (bs.map enc) ∧ Sortable (bs.map enc) ∧ (∀ b ∈ bs, (enc b).depth ≤ 50) ∧
  ∀ (ys : List V) (p : Addr), H p = none → Paired (fun v b => Dp K H v (enc b) ∧ v ∈ vs) ys (bs.mergeSort (dataLe false enc)) → Q (.ref p) (upd H p (.lst ys))
theorem cr_sortA (hu : X.A.units + 64 < cLine) : CallR X (.builtin "sorted") (rSortA X.K enc) := by
  intro pins s σ H xs us Q I r h
  obtain ⟨a, vs, bs, rfl, hs, hp, hal, hk, hdp, q⟩ := h
  cases r with
  | cons rx rr =>
    cases rr
    cases rx
    obtain ⟨T, o, its, n, hT, ho, hc, hd, rv, hz⟩ : ∃ (T : String) (o : Obj) (its : List Value) (n : Nat), (T = "list" ∨ T = "tuple") ∧ s.heap.get? a = some o ∧ o.cls = .type T ∧ o.data = .seq its.toArray n ∧ Vals vs its ∧ vs.length ≤ sizeLine := by
      rcases hs with hs | hs
      · obtain ⟨its, rv, ⟨o, n, ho, hc, _, hd⟩, hz⟩ := I.list hs
        exact ⟨"list", o, its, n, .inl rfl, ho, hc, hd, rv, hz⟩
      · obtain ⟨its, rv, ⟨o, ho, hc, n, hd⟩, hz⟩ := I.tuple hs
        exact ⟨"tuple", o, its, n, .inr rfl, ho, hc, hd, rv, hz⟩
    have e := each_of (all := vs) (fun v hv => hv) rv hp
    have er : EachIs (fun v b => ∃ as, Reads s.heap v (enc b) as) its bs := e.mono fun u b ⟨v, rv, _, dv⟩ => Dp.reads I _ _ _ dv rv
    refine PySem.SoX.sorted_seq hT ho hc hd e er hal hk ?_ (fun b hb => ?_) fun h' d out kp nd hn hlen eo => ?_
    · rw [← e.length, ← rv.length]
      exact hz
    · have := hdp b hb
      omega
    · obtain ⟨ys, ry, py⟩ := of_each eo
      obtain ⟨k, hn⟩ := hn
      have nH := I.hok.none_at nd
      have lz : ys.length ≤ sizeLine := by
        rw [ry.length, hlen, ← e.length, ← rv.length]
        exact hz
      have J := I.laidN (h' := h') (o := .lst ys) (t' := s.toks) kp nd nH ⟨lz, out, k, ry, hn⟩
      exact ⟨.ref d, _, J, rfl, q ys d nH py⟩
end
end L2
set_option Elab.async false
set_option linter.all false
set_option maxRecDepth 100000
set_option maxHeartbeats 2000000
namespace L2
open PySem PySem.Spec PyProof.Rows
/-! ### x in t, t a tuple of data -/
section
variable {X : Cx}
def rInTD (K : PySem.W.Frag) (neg : Bool) : R2 := fun x y H Q => ∃ d ds, Dp K H x d ∧ Dp K H y (.tuple ds) ∧ SeqAt.shaped d = true ∧ SeqAt.shaped (.tuple ds) = true ∧ Q (.bl ((ds.any fun z => PyData.eqv z d) != neg)) H
theorem op_inTD (hu : X.A.units + 65 < cLine) : OpR X (compareOp .In) (rInTD X.K false) := by
  intro pins s σ H x y v u Q I rx ry h
  obtain ⟨d, ds, dx, dy, sx, sy, q⟩ := h
  obtain ⟨as, rdx⟩ := Dp.reads I d x v dx rx
  obtain ⟨bs, rdy⟩ := Dp.reads I (.tuple ds) y u dy ry
  refine SeqAt.in_tuple_reads rdy rdx (SeqAt.canLay_of_shaped sy) (SeqAt.canLay_of_shaped sx) (room_in_shaped sx hu) ⟨.bl _, H, I, rfl, ?_⟩
  simpa using q
theorem op_notInTD (hu : X.A.units + 65 < cLine) : OpR X (compareOp .NotIn) (rInTD X.K true) := by
  intro pins s σ H x y v u Q I rx ry h
  obtain ⟨d, ds, dx, dy, sx, sy, q⟩ := h
  obtain ⟨as, rdx⟩ := Dp.reads I d x v dx rx
  obtain ⟨bs, rdy⟩ := Dp.reads I (.tuple ds) y u dy ry
  refine SeqAt.notIn_tuple_reads rdy rdx (SeqAt.canLay_of_shaped sy) (SeqAt.canLay_of_shaped sx) (room_in_shaped sx hu) ⟨.bl _, H, I, rfl, ?_⟩
  simpa using q
end
/-! ### enumerate over a tuple -/
/-- the items of the tuple at a, each in a new pair -/
def Iet (K : PySem.W.Frag) (a : Addr) : It :=
  ⟨fun i H => ∃ (xs : List V) (x : V), SqT K H a xs ∧ xs[i]? = some x, fun i H v H' => ∃ T x, v = .ref T ∧ H T = none ∧ H' = upd H T (.tup [.int (i : Nat), x]) ∧ ∀ xs, SqT K H a xs → xs[i]? = some x, fun i H => ∃ xs : List V, SqT K H a xs ∧ xs.length = i⟩
theorem tuple_inj {X : Cx} {pins : List (Addr × Obj)} {σ : St} {H : Hp} {s : Shared} {a : Addr} {xs ys : List V} (I : Inv X pins σ H s) (h1 : SqT X.K H a xs) (h2 : SqT X.K H a ys) : xs = ys := by
  obtain ⟨us, r1, ⟨o, e1, _, n1, d1⟩, _⟩ := I.tuple h1
  obtain ⟨ws, r2, ⟨p, e2, _, n2, d2⟩, _⟩ := I.tuple h2
  rw [e1] at e2
  cases e2
  rw [d1] at d2
  cases d2
  exact r1.inj r2
theorem turn_enumT {P : Program} {w : World} {K : PySem.W.Frag} {elts : List Expr} {kk : Nat} {tpos : Pos} (a e it : Addr) :
    Turn P w K (.Tuple elts kk tpos) (Iet K a) [e, it] e (fun i h => (∃ old, IsEnum h e it ((i : Nat) : Int) old) ∧ h.IsTupleIter it a i ∧ e ≠ it ∧ a ≠ it ∧ a ≠ e) where
  mem := by simp
  obj := by
    rintro i h ⟨⟨old, he⟩, ⟨o, ho, hc, hd⟩, _⟩ b hb
    rcases List.mem_cons.mp hb with rfl | hb
    · exact ⟨_, he, fun v q => by cases q⟩
    · cases List.mem_singleton.mp hb
      exact ⟨o, ho, fun v q => by rw [hd] at q; cases q⟩
  keep := by
    rintro i h h' ⟨⟨old, he⟩, hi, ne⟩ k
    exact ⟨⟨old, k e (by simp) _ he⟩, hi.at fun o q => k it (by simp) o q, ne⟩
  item := by
    intro X hP hw hK hc i pins s σ H E I hf st hg
    subst hP hw hK
    obtain ⟨⟨old, he⟩, hit, hne, hai, hae⟩ := st
    obtain ⟨xs, x, hq, hx⟩ := hg
    obtain ⟨its, rv, p, hz⟩ := I.tuple hq
    obtain ⟨u, hu, ru⟩ := rv.get hx
    have e_lt : e < s.heap.objs.size := Heap.lt_size he
    have it_lt : it < s.heap.objs.size := by
      obtain ⟨_, q, _⟩ := hit
      exact Heap.lt_size q
    have i_lt : i < its.toArray.size := by
      rw [List.size_toArray]
      exact (List.getElem?_eq_some_iff.mp hu).1
    refine wpAny_pyNext_enum_itemD (Draws.tuple (A := X.A.in1) (I.ok.hd hc) it a hai its.toArray) he ⟨hit, p⟩ i_lt hne (by simp [hne, Ne.symm hae]) fun y h' tk hy ho st' hT hsz hk => ?_
    obtain rfl : y = u := by
      have : its.toArray[i]? = some y := hy
      rw [List.getElem?_toArray, hu] at this
      cases this
      rfl
    refine ⟨_, rfl, wpAny_letOwnedTupleGo_enum (s := { s with heap := h', toks := tk + 1 }) ho fun h'' he' sb => ?_⟩
    have at_T : h''.get? s.heap.objs.size = some { cls := .type "tuple", data := .seq #[.int i tk, y] } := (sb.2 _ (Nat.ne_of_gt e_lt)).trans hT
    have J : Inv X pins σ (upd H s.heap.objs.size (.tup [.int (i : Nat), x])) { s with heap := h'', toks := tk + 1 } :=
      I.turnedNew (ch := [e, it]) (fun b ob hb q => (sb.2 b (fun z => hb (by simp [z]))).trans (hk b ob (fun z => hb (by simp [z])) (fun z => hb (by simp [z])) q)) hf (Nat.le_refl _)
        ⟨by show 2 ≤ sizeLine; decide, [.int i tk, y], .cons ⟨_, rfl⟩ (.cons ru .nil), ⟨_, at_T, rfl, _, rfl⟩⟩
    refine ⟨.ref s.heap.objs.size, _, J, rfl, ⟨_, x, rfl, I.hok.fresh (Nat.le_refl _), rfl, fun ys hy => by rw [tuple_inj I hy hq]; exact hx⟩, ⟨⟨y, ?_⟩, st'.1.at fun o q => (sb.2 it (Ne.symm hne)).trans q, hne, hai, hae⟩, fun b hb => ?_⟩
    · rw [show ((i + 1 : Nat) : Int) = (i : Int) + 1 by omega]
      exact he'
    · have b_lt : b < s.heap.objs.size := by
        rcases List.mem_cons.mp hb with rfl | hb
        · exact e_lt
        · cases List.mem_singleton.mp hb
          exact it_lt
      rw [upd_ne (Nat.ne_of_lt b_lt)]
      exact (hf b hb).1
  done := by
    intro X hP hw hK hc i pins s σ H E I hf st hg
    subst hP hw hK
    obtain ⟨⟨old, he⟩, hit, hne, hai, hae⟩ := st
    obtain ⟨xs, hq, rfl⟩ := hg
    obtain ⟨its, rv, p, hz⟩ := I.tuple hq
    obtain ⟨f0, f1, f2, f3, f4, f5⟩ := hf it (by simp)
    have hl : its.toArray.size = xs.length := by
      rw [List.size_toArray]
      exact rv.length.symm
    exact wpAny_pyNext_enum_endD (Draws.tuple (A := X.A.in1) (I.ok.hd hc) it a hai its.toArray) he ⟨hl.symm ▸ hit, p⟩ fun h' eb => ⟨rfl, I.turned (t' := s.toks) (fun b o hb q => eb b o hb q) f0 f1 f3 f4 f5⟩
  self := by
    rintro A i s Q E ⟨⟨_, he⟩, _⟩ h
    exact wpAny_pyIter_enum he h
def iEnumT (K : PySem.W.Frag) (ta : TA) : TI := fun σ H R => ta σ H fun vs H1 => ∃ a xs, vs = [.ref a] ∧ SqT K H1 a xs ∧ R (Iet K a) H1
theorem walk_enumT {K : PySem.W.Frag} {a : Addr} {xs : List V} : Walk (Iet K a) xs.length (fun H => SqT K H a xs) (YPair (fun i => some (.int (i : Nat))) (fun i => xs[i]?)) := by
  refine ⟨fun i H hi q => ⟨xs, xs[i], q, by simp [hi]⟩, fun H q => ⟨xs, q, rfl⟩, fun i H v H' hi q y => ?_⟩
  obtain ⟨T, x, h1, h2, h3, h4⟩ := y
  exact ⟨T, .int (i : Nat), x, h1, h2, h3, rfl, h4 xs q⟩
end L2
set_option Elab.async false
set_option linter.all false
set_option maxRecDepth 100000
set_option maxHeartbeats 2000000
namespace PySem
namespace EnX
open PySem.W PyProof.Rows
/-- enumerate(v), v any value whose iterator is known -/
theorem meets_new1 {v : Value} {o : Obj} {H : Heap → Prop} (B : Begins v o H) :
    Meets (Builtin.«enumerate.__new__» ⟨[.type "enumerate", v], []⟩) (fun _ R s => H s.heap ∧
      R (.ok (.ret (.ref (s.heap.push o).objs.size))) { s with heap := (s.heap.push o).push { cls := .type "enumerate", data := .fields #[.none, .bool false, .ref s.heap.objs.size, rawInt 0, .none, .none] } }) :=
  .of_wp fun prog w A R s h => by
    obtain ⟨hp, g, d, tk, os⟩ := s
    obtain ⟨h1, h⟩ := h
    have is_sub := sub_enumerate
    have it : ∀ {A' : Around} {E : Value → Shared → Prop} {Q : Value → Shared → Prop}, Q (.ref hp.objs.size) ⟨hp.push o, g, d, tk, os⟩ → wpAny (model prog w) A' (pyIter v) Q E ⟨hp, g, d, tk, os⟩ :=
      fun q => B.iter prog w _ _ ⟨hp, g, d, tk, os⟩ _ h1 q
    wp_walk using it
    refine wpAny_stack_any fun st => wpAny_pure ?_
    split
    · rename_i c _ _ _ _ _
      cases (c == Value.type "enumerate") <;> (wp_walk using it; exact ⟨_, rfl, h⟩)
    · wp_walk using it
      exact ⟨_, rfl, h⟩
theorem begins1 {prog : Program} {w : World} {A : Around} {E : Value → Shared → Prop} {s : Shared} {v : Value} {o : Obj} {H : Heap → Prop} {Q : Value → Shared → Prop} (B : Begins v o H) (h1 : H s.heap)
    (h : ∀ h', IsEnum h' (s.heap.objs.size + 1) s.heap.objs.size 0 .none → h'.get? s.heap.objs.size = some o → (∀ b o, s.heap.get? b = some o → h'.get? b = some o) → Q (.ref (s.heap.objs.size + 1)) { s with heap := h' }) :
    wpAny (model prog w) A (call (.type "enumerate") [v]) Q E s := by
  refine callType_new F.called_enumerate (by decide) (F.typeCall_enumerate_1 _) (F.newCall_enumerate_1 _) (fun obj => F.args_object_init_2 obj _) F.entry_enumerate_new (meets_new1 B) ⟨h1, ?_⟩
  have sz : (s.heap.push o).objs.size = s.heap.objs.size + 1 := Heap.size_push ..
  show _ ∧ _
  rw [sz]
  have he : IsEnum ((s.heap.push o).push { cls := .type "enumerate", data := .fields #[.none, .bool false, .ref s.heap.objs.size, rawInt 0, .none, .none] }) (s.heap.objs.size + 1) s.heap.objs.size 0 .none := by
    have z := Heap.get?_push_size (s.heap.push o) (o := { cls := .type "enumerate", data := .fields #[.none, .bool false, .ref s.heap.objs.size, rawInt 0, .none, .none] }) rfl
    rwa [sz] at z
  exact ⟨⟨_, he, rfl⟩, h _ he (Heap.get?_push_of_some _ (Heap.get?_push_size _ B.free)) fun b u q => Heap.get?_push_of_some _ (Heap.get?_push_of_some _ q)⟩
end EnX
end PySem
namespace L2
open PySem PySem.Spec PyProof.Rows
theorem pi_enumT {X : Cx} {e : Expr} {ta : TA} {p pos tpos : Pos} {elts : List Expr} {kk : Nat} (hg : Gl X "enumerate") (hm : X.mg "enumerate" = none) (ha : PA X [e] ta) (hs : starEach [e] X.env = [(false, eval e X.env)] := by rfl) :
    PI X (.Tuple elts kk tpos) (.Call (.Name "enumerate" p) [e] [] pos) (iEnumT X.K ta) := by
  constructor
  intro pins s σ H R I h
  refine Call_ (ld_blt I hg hm boot_enumerate (PyProof.Rows.callWith_type1 (thn (ha.run pos pins s σ H _ I h) fun us s1 z => ?_) hs rfl))
  obtain ⟨vs, H1, I1, r1, a, xs, rfl, hq, q⟩ := z
  cases r1 with
  | cons r rr =>
    cases rr
    cases r
    obtain ⟨its, rv, p', hz⟩ := I1.tuple hq
    refine PySem.EnX.begins1 (begins_tuple a its.toArray) p' fun h' he hit hk => wpAny_pyIter_enum he ?_
    have a_lt : a < s1.heap.objs.size := by
      obtain ⟨o, e, _⟩ := p'
      exact Heap.lt_size e
    have I2 : Inv X pins σ H1 { s1 with heap := h' } := I1.kept (t' := s1.toks) hk
    refine ⟨s1.heap.objs.size + 1, [s1.heap.objs.size + 1, s1.heap.objs.size], _, _, H1, rfl, I2, turn_enumT a (s1.heap.objs.size + 1) s1.heap.objs.size, ⟨⟨.none, he⟩, ⟨_, hit, rfl, rfl⟩, Nat.succ_ne_self _, Nat.ne_of_lt a_lt, Nat.ne_of_lt (Nat.lt_succ_of_lt a_lt)⟩, fun b hb => ?_, q⟩
    have le : s1.heap.objs.size ≤ b := by
      rcases List.mem_cons.mp hb with rfl | hb
      · exact Nat.le_succ _
      · cases List.mem_singleton.mp hb
        exact Nat.le_refl _
    exact I1.fpOk le (I1.hok.fresh le)
/-! ### classes called with a star, or with nothing; staticmethods -/
section
variable {X : Cx} {CX : CXT} {k i : Nat} {f C : Addr} {sp : Sp} {E : XK} {x m : Str} {e o : Expr} {es : List Expr} {te ta : TE} {t : TA} {p sp_ pos apos : Pos}
open StX
/-- C(*y) -/
theorem pe_makeS (M : Mk X.K C f) (F : FnR X.prog X.w X.K X.mg X.base CX k f sp) (hr : Room (k + 1) X.A) (hg : Gl X x) (hm : X.mg x = some (.ref C)) (hx : Passes CX X E) (he : PE X e te) (hdb : (x == ("__debug__" : Str)) = false := by decide)
    (hst : starEach [.Starred e sp_] X.env = [(true, eval e X.env)] := by rfl) :
    PE X (.Call (.Name x p) [.Starred e sp_] [] pos) (fun σ H Q => te σ H fun y H1 => ∃ a xs, y = V.ref a ∧ (SqT X.K H1 a xs ∨ SqL X.K H1 a xs) ∧ ∀ z dz, H1 z = none → H1 dz = none → dz ≠ z → sp (V.ref z :: xs) (upd (upd H1 dz (.own z)) z (.ins C dz [])) (fun v H2 => v = .non ∧ Q (.ref z) H2) E) := by
  constructor
  intro pins s σ H Q I h
  refine wpAny_Call_Name_kw (ld_glob I hg hm ?_ hdb)
  refine PySem.W.callWith_S (h₀ := X.base) I.ok.mod.kin M.kp (thn (he.run pins s σ H _ I h) fun v s1 z => ?_) hst
  obtain ⟨y, H1, I1, ry, a, xs, rfl, hxs, q⟩ := z
  cases ry
  exact star_any I1 hxs fun us s2 I2 rv => ⟨I2.kIn, run_makeR M F hr hx I2 rv q⟩
/-- C(e, .., *y) -/
theorem pe_makeS2 (M : Mk X.K C f) (F : FnR X.prog X.w X.K X.mg X.base CX k f sp) (hr : Room (k + 1) X.A) (hg : Gl X x) (hm : X.mg x = some (.ref C)) (hx : Passes CX X E) (ha : PA X (e :: es) t) (hdb : (x == ("__debug__" : Str)) = false := by decide)
    (hst : ∀ {M : Model} {A : Around} {E : Value → Shared → Prop} {s : Shared} {Q : Value → Shared → Prop}, PySem.W.keepIn X.K (.ref C) = true → wpAny M A (spliced (backTo pos (starEach (e :: es) X.env))) (fun vs s₁ => X.K.In s₁.heap ∧ wpAny M A (call (.ref C) ([] ++ vs)) Q E s₁) E s → wpAny M A (callWith pos (.ref C) [] (backTo pos (starEach (e :: es) X.env)) []) Q E s) :
    PE X (.Call (.Name x p) (e :: es) [] pos) (tMakeR C sp E t) := by
  constructor
  intro pins s σ H Q I h
  refine wpAny_Call_Name_kw (ld_glob I hg hm ?_ hdb)
  refine hst M.kp (thn (ha.run pos pins s σ H _ I h) fun us s1 z => ?_)
  obtain ⟨vs, H1, I1, r, q⟩ := z
  exact ⟨I1.kIn, run_makeR M F hr hx I1 r q⟩
end
end L2
set_option Elab.async false
set_option linter.all false
set_option maxRecDepth 100000
set_option maxHeartbeats 2000000
namespace L2
open PySem PySem.Spec PyProof.Rows
open ClX StX
/-! ### a class made of nothing; staticmethods of a class -/
/-- C.m is a staticmethod: its record at p, its def at g -/
structure SMet (K : PySem.W.Frag) (C : Addr) (mc : Value) (m : Str) (p g : Addr) : Prop where
  at_ : PySem.W.findCls K (.ref C) mc m = some (.get (.builtin "staticmethod.__get__") (.ref p) .none (.ref C))
  rc : ∃ rest, PySem.W.recIn K p "staticmethod" = some (.ref g :: rest)
  kp : PySem.W.keepIn K (.ref g) = true
section
variable {X : Cx} {CX : CXT} {k : Nat} {f C p g : Addr} {mc : Value} {sp : Sp} {E : XK} {o e : Expr} {es : List Expr} {kws : List Keyword} {x m : Str} {pos apos p0 : Pos} {ta : TE} {t tk : TA} {pl : Sem Bool} {fd : FuncData} {ps ks : List Str}
  {gG : List Value → List Value → List Value} {gV : List V → List V → List V}
theorem pe_makeR0 (M : Mk X.K C f) (F : FnR X.prog X.w X.K X.mg X.base CX k f sp) (hr : Room (k + 1) X.A) (hg : Gl X x) (hm : X.mg x = some (.ref C)) (hx : Passes CX X E) (hdb : (x == ("__debug__" : Str)) = false := by decide) : PE X (.Call (.Name x p0) [] [] pos) (tMakeR C sp E tNil) := by
  constructor
  intro pins s σ H Q I h
  refine wpAny_Call_Name_kw (ld_glob I hg hm ?_ hdb)
  exact PySem.W.callWith_K0 I.kIn M.kp (run_makeR (us := []) M F hr hx I .nil h)
theorem get_sm {pins : List (Addr × Obj)} {σ : St} {H : Hp} {s : Shared} {A : Around} {E : Value → Shared → Prop} {Q : Value × List Value → Shared → Prop} (I : Inv X pins σ H s) (r : CRead X.K C mc) (c : SMet X.K C mc m p g)
    (h : ∀ s', Inv X pins σ H s' → Q (.ref g, []) s') : wpAny (model X.prog X.w) A (getMethod (.ref C) m pl) Q E s := by
  obtain ⟨rest, hp⟩ := c.rc
  refine PySem.W.method_cls I.kIn r.ga (PySem.W.cls_bind I.kIn r.rd c.at_ (wpAny_call (PySem.W.sm_get (s := { s with toks := s.toks + 1 }) I.kIn hp (PySem.W.handed_on rfl ?_))))
  exact h _ (I.tok _)
def tSMeth (C : Addr) (sp : Sp) (E : XK) (ta : TE) (t : TA) : TE := fun σ H Q => ta σ H fun x H1 => x = .ref C ∧ t σ H1 fun vs H2 => sp vs H2 Q E
/-- C.m(e, ..) -/
theorem pe_smeth (he : PE X o ta) (r : CRead X.K C mc) (c : SMet X.K C mc m p g) (F : FnOk X.prog X.w X.K X.mg X.base CX k g fd ps sp) (hr : Room k X.A) (hb : Binds X.K fd ps []) (hx : Passes CX X E) (ha : PA X (e :: es) t)
    (hst : starEach (e :: es) X.env = (false, eval e X.env) :: starEach es X.env := by rfl) (hpl : (backTo pos (starEach es X.env)).any (·.1) = false := by rfl)
    (ht : eval (.Call (.Attribute o m apos) (e :: es) [] pos) X.env = (do
      let ov ← eval o X.env
      standAt apos.atName
      let (f, first) ← holding [ov] (getMethod ov m pl)
      callWith pos f first (backTo pos (starEach (e :: es) X.env)) (backToKw pos (keywordEach [] X.env))) := by rfl) :
    PE X (.Call (.Attribute o m apos) (e :: es) [] pos) (tSMeth C sp E ta t) := by
  constructor
  intro pins s σ H Q I h
  refine PySem.W.methodCall_KW (pl := pl) (thn (he.run pins s σ H _ I h) fun u s1 z => ?_) ht
  obtain ⟨x, H1, I1, rx, rfl, q⟩ := z
  cases rx
  refine get_sm I1 r c fun s2 I2 => ?_
  refine PySem.W.callWith_K (h₀ := X.base) I.ok.mod.kin c.kp (thn (ha.run pos pins s2 σ H1 _ I2 q) fun us s3 z => ?_) hst hpl
  obtain ⟨vs, H2, I3, rv, q2⟩ := z
  exact ⟨I3.kIn, run_fn F hr hb .nil hx I3 rv (by rw [List.append_nil]; exact q2)⟩
/-- C.m(k = v, ..) -/
theorem pe_smethK (he : PE X o ta) (r : CRead X.K C mc) (c : SMet X.K C mc m p g) (F : FnOk X.prog X.w X.K X.mg X.base CX k g fd ps sp) (hr : Room k X.A) (hb : KBinds X.K fd ps ks gG gV) (hx : Passes CX X E) (hkw : PK X kws tk)
    (hall : (backToKw pos (keywordEach kws X.env)).all (·.1.isSome) = true := by rfl) (hks : (backToKw pos (keywordEach kws X.env)).filterMap (·.1) = ks := by rfl)
    (hpl : ((backTo pos (starEach [] X.env)).any (·.1) || (backToKw pos (keywordEach kws X.env)).any (·.1.isNone)) = false := by rfl)
    (ht : eval (.Call (.Attribute o m apos) [] kws pos) X.env = (do
      let ov ← eval o X.env
      standAt apos.atName
      let (f, first) ← holding [ov] (getMethod ov m pl)
      callWith pos f first (backTo pos (starEach [] X.env)) (backToKw pos (keywordEach kws X.env))) := by rfl) :
    PE X (.Call (.Attribute o m apos) [] kws pos) (fun σ H Q => ta σ H fun x H1 => x = .ref C ∧ tk σ H1 fun zs H2 => sp (gV [] zs) H2 Q E) := by
  constructor
  intro pins s σ H Q I h
  refine PySem.W.methodCall_KW (pl := pl) (thn (he.run pins s σ H _ I h) fun u s1 z => ?_) ht
  obtain ⟨x, H1, I1, rx, rfl, q⟩ := z
  cases rx
  refine get_sm I1 r c fun s2 I2 => ?_
  refine PySem.W.callWith_KW0 (h₀ := X.base) I.ok.mod.kin c.kp hall ?_ hpl
  refine thn (hkw.run pos pins s2 σ H1 _ I2 q) fun ws s3 z => ?_
  obtain ⟨zs, H2, I3, rz, q2⟩ := z
  rw [hks]
  exact ⟨I3.kIn, run_fnk (us := []) (vs := []) F hr hb hx I3 .nil rz q2⟩
end
/-! ### a dict comprehension, its keys ints, texts or tuples of these -/
theorem put_comp {X : Cx} {pins : List (Addr × Obj)} {σ : St} {H H' : Hp} {s : Shared} {E : Value → Shared → Prop} {D : Addr} {y v : V} {u r : Value} {Q : Unit → Shared → Prop} (hu : X.A.units < cLine) (I : Inv X pins σ H s) (g : DPut H D y v H')
    (ry : RelV y u) (rv : RelV v r) (h : ∀ s', Inv X pins σ H' s' → Q () s') : wpAny (model X.prog X.w) X.A (dictSet D u r) Q E s := by
  rcases g with ⟨kvs, k, e, rfl, l, rfl⟩ | ⟨kvs, k, b, e, rfl, eb, l, rfl⟩
  · exact d_dictSet I e l ry rv h
  · cases ry
    obtain ⟨z, hd, xs, rel, dd⟩ := dt_of I.hok e
    have small : xs.length ≤ sizeLine := by
      rw [← Paired.length rel]
      exact z
    have fits : (putK kvs k v).length ≤ sizeLine := by
      have := length_putK kvs k v
      omega
    refine wpAny_dictSet_heap (hsz := small) hu (key_of I.hok eb) dd fun h' dd' hs => h _ ?_
    obtain ⟨q, es, ep, hq, h2, h3, h4, _, h5⟩ := dd'
    refine d_write I (by rw [e]; exact True.intro) hs ⟨q, hq⟩ ⟨fits, hd, _, (rel.put k eb rv).keeps fun c ys ec => ?_, q, es, ep, hq, h2, h3, h4, h5⟩
    rw [upd_ne (ne_of ec e (fun z => nomatch z))]
    exact ec
def tDcT (wi : TI) (g : TG) (tt : TT) (tk tv : TE) (vs : List Nat) : TE := fun σ H Q => wi σ H fun J H1 => ∀ D, H1 D = none → ∃ W : Nat → Nat → Hp → Prop, (∃ m, W 0 m (upd H1 D (.dT []))) ∧ ∀ i m H, W i m H →
  (J.stop i H ∧ Q (.ref D) H) ∨ (J.go i H ∧ ∃ Nx : Hp → Prop, (∀ H', Nx H' → ∃ m', m' < m ∧ W (i + 1) m' H') ∧ ∀ x H', J.yld i H x H' → g x (wipe σ vs) H' fun σ2 H2 => wipe σ2 vs = wipe σ vs ∧ tt σ2 H2 fun b H3 =>
    if b = true then tk σ2 H3 fun y H4 => tv σ2 H4 fun z H5 => ∃ H6, DPut H5 D y z H6 ∧ Nx H6 else Nx H3)
section
variable {X : Cx} {kx vx tg iter : Expr} {ifs : List Expr} {scope : Scope} {own : List (Str × Nat)} {pos pos' : Pos} {wi : TI} {g : TG} {tt : TT} {tk tv : TE}
theorem pe_dcT (hu : X.A.units < cLine) (hc : X.calm = true) (nd : X.N.Nodup) (hi : PI X tg iter wi) (ok : BlkOk X.N X.env.scope scope own) (hg : ∀ (s : Shared) (H : Hp) (C : Addr) (cl : List (Str × Addr)) (fp : List Addr), PG (X.blk s H scope (compEnvC scope cl C X.env) fp) tg g)
    (ht : ∀ (s : Shared) (H : Hp) (C : Addr) (cl : List (Str × Addr)) (fp : List Addr), PTs (X.blk s H scope (compEnvC scope cl C X.env) fp) ifs tt) (hk : ∀ (s : Shared) (H : Hp) (C : Addr) (cl : List (Str × Addr)) (fp : List Addr), PE (X.blk s H scope (compEnvC scope cl C X.env) fp) kx tk)
    (hv : ∀ (s : Shared) (H : Hp) (C : Addr) (cl : List (Str × Addr)) (fp : List Addr), PE (X.blk s H scope (compEnvC scope cl C X.env) fp) vx tv) (hs : ∀ x, foldedSetIterable iter X.env x = pure x := by intro _; rfl) :
    PE X (.DictComp kx vx [⟨tg, iter, ifs, 0⟩] scope pos) (tDcT wi g tt tk tv (own.map (·.2))) := by
  constructor
  intro pins s σ H Q I h
  rw [arm_eval_DictComp]
  have cellOf : ∀ y ∈ scope.names, y.2 = .free → ∃ c, X.env.cells.lookup y.1 = some c := fun y hy e => (ok.free y hy e).elim (fun k => I.ok.has _ (.inl k)) fun k => I.ok.has _ (.inr k)
  apply wpAny_comprehension_free rfl hs (closure_ok cellOf) ok.kind (fun y hy e => by rw [ok.uniq y hy, e])
  refine thn (hi.run pins s σ H _ I h) fun xv s1 first => thn first fun itv s2 second => ?_
  obtain ⟨it, fp, tn, J, HA, rfl, IA, TR, stA, fpA, plan⟩ := second
  refine wpAny_newObj_type (newEnv_comp ?_)
  generalize eD : s2.heap.objs.size = D
  have freeD : HA D = none := IA.hok.fresh (Nat.le_of_eq eD)
  obtain ⟨W, ⟨m0, w0⟩, turn⟩ := plan D freeD
  generalize eB : ({ s2 with heap := s2.heap.push { cls := .type "dict", data := .dict #[] } } : Shared) = sB
  have heapB : sB.heap = s2.heap.push { cls := .type "dict", data := .dict #[] } := by rw [← eB]
  have IB : Inv X pins σ (upd HA D (.dT [])) sB := by
    rw [← eB]
    refine IA.laid (t' := s2.toks) (fun b o e => Heap.get?_push_of_some _ e) (Nat.le_of_eq eD) ?_
    rw [← eD]
    exact dt_empty s2.heap IA.big
  have fpB : ∀ b ∈ fp, FpOk X pins (upd HA D (.dT [])) b ∧ b < sB.heap.objs.size := by
    intro b hb
    obtain ⟨o, e, _⟩ := TR.obj _ _ stA b hb
    have lt := Heap.lt_size e
    refine ⟨⟨?_, (fpA b hb).2⟩, ?_⟩
    · rw [upd_ne (by rw [← eD]; exact Nat.ne_of_lt lt)]
      exact (fpA b hb).1
    · rw [heapB, Heap.size_push]
      exact Nat.lt_succ_of_lt lt
  have stB : tn 0 sB.heap := TR.keep _ _ _ stA fun b _ o e => by
    rw [heapB]
    exact Heap.get?_push_of_some _ e
  have IC := block_start IB ok nd fpB
  have rules := And.intro (hg sB (upd HA D (.dT [])) sB.heap.objs.size (cellsFrom (sB.heap.objs.size + 1) scope.names (cloFrom X.env.cells scope.names [])) fp)
    (And.intro (ht sB (upd HA D (.dT [])) sB.heap.objs.size (cellsFrom (sB.heap.objs.size + 1) scope.names (cloFrom X.env.cells scope.names [])) fp)
      (And.intro (hk sB (upd HA D (.dT [])) sB.heap.objs.size (cellsFrom (sB.heap.objs.size + 1) scope.names (cloFrom X.env.cells scope.names [])) fp) (hv sB (upd HA D (.dT [])) sB.heap.objs.size (cellsFrom (sB.heap.objs.size + 1) scope.names (cloFrom X.env.cells scope.names [])) fp)))
  generalize eR : compPost (model X.prog X.w) X.A X.xe (none : Option (Value → Sem Unit)) (EP X pins σ Q) (.ref D) sB.heap.objs.size = RR
  show codeAny _ _ (.compStart (.DictComp kx vx [⟨tg, iter, ifs, 0⟩] scope pos) 0 (.ref it) (.ref D) (compEnvC scope (cellsFrom (sB.heap.objs.size + 1) scope.names (cloFrom X.env.cells scope.names [])) sB.heap.objs.size X.env))
    (compPost (model X.prog X.w) X.A X.xe (none : Option (Value → Sem Unit)) (EP X pins σ Q) (.ref D) sB.heap.objs.size) { sB with heap := pushCells (sB.heap.push { cls := .type "dict", data := .dict #[] }) scope.names }
  rw [eR]
  have noneB : ∀ b ∈ fp, (upd HA D (.dT [])) b = none := fun b hb => (fpB b hb).1.1
  generalize eE : compEnvC scope (cellsFrom (sB.heap.objs.size + 1) scope.names (cloFrom X.env.cells scope.names [])) sB.heap.objs.size X.env = env2 at IC rules ⊢
  have locE : env2.locals = sB.heap.objs.size := by
    subst eE
    rfl
  generalize eH : upd HA D (.dT []) = HB at IB IC rules w0 noneB fpB
  generalize eC : ({ sB with heap := pushCells (sB.heap.push { cls := .type "dict", data := .dict #[] }) scope.names } : Shared) = sC at IC ⊢
  obtain ⟨rg, rt, rk, rv⟩ := rules
  have stC : tn 0 sC.heap := TR.keep _ _ _ stB fun b _ o e => by
    rw [← eC]
    exact pushCells_keeps _ _ _ _ (Heap.get?_push_of_some _ e)
  have still : ∀ {σ' : St} {H' : Hp} {s' : Shared}, Inv (X.blk sB HB scope env2 fp) [] σ' H' s' → (∀ b ∈ fp, H' b = none) → ∀ b ∈ fp, FpOk (X.blk sB HB scope env2 fp) [] H' b := by
    intro σ' H' s' I' nn b hb
    exact ⟨nn b hb, (I'.ok.exf b hb).1, I'.ok.exfs b hb, .inl hb, fun x c e => (I'.ok.exf b hb).2 x c e, fun p hp => absurd (show p ∈ ([] : List (Addr × Obj)) ++ [] from hp) (by simp)⟩
  have loop : codeAny (model X.prog X.w) X.A (.compLoop (.DictComp kx vx [⟨tg, iter, ifs, 0⟩] scope pos) 0 (.ref it) (.ref D) env2) RR sC := by
    refine compLoop_anyD (fun n s' => ∃ i H', Inv (X.blk sB HB scope env2 fp) [] (wipe σ (own.map (·.2))) H' s' ∧ tn i s'.heap ∧ (∀ b ∈ fp, H' b = none) ∧ W i n H') ?_ m0 ⟨0, HB, IC, stC, noneB, w0⟩
    rintro n sD ⟨i, HD, ID, stD, nnD, wD⟩
    rcases turn i n HD wD with ⟨stop, qq⟩ | ⟨go, Nx, hNx, step⟩
    · refine thnF (TR.done (X.blk sB HB scope env2 fp) rfl rfl rfl hc i [] sD _ HD (fun _ _ => False) ID (still ID nnD) stD stop) fun r sE z => ?_
      obtain ⟨rfl, IE⟩ := z
      have IX : Inv X pins σ HD sE := IB.call' (ch := fp) IE.os IE.base IE.hok IE.bare fun b hb => ⟨(fpB b hb).1.2.2.2.1, (fpB b hb).1.2.1, (fpB b hb).1.2.2.2.2.1, (fpB b hb).1.2.2.2.2.2⟩
      obtain ⟨m, hn, _⟩ := IE.loc
      have nC : HD env2.locals = none := IE.free
      have hn : sE.heap.Ns env2.locals m := hn
      rw [locE] at nC hn
      rw [← eR]
      refine ⟨m, hn, fun h'' sb => ?_⟩
      obtain ⟨f0, f1, f2, f3, f4, f5⟩ := IB.fpOk (Nat.le_refl _) nC
      exact ⟨.ref D, HD, IX.turned (t' := sE.toks) (fun b o hb e => (sb.2 b hb).trans e) f0 f1 f3 f4 f5, rfl, qq⟩
    · refine thnF (TR.item (X.blk sB HB scope env2 fp) rfl rfl rfl hc i [] sD _ HD (fun _ _ => False) ID (still ID nnD) stD go) fun r sE z => ?_
      obtain ⟨u, rfl, hE⟩ := z
      refine thnF hE fun _ sF z => ?_
      obtain ⟨x, HF, IF, rF, yF, stF, nnF⟩ := z
      refine thnF (rg.run _ sF _ HF x u _ (IF.pinned (still IF nnF) (TR.obj _ _ stF)) rF (step x HF yF)) fun _ sG z => ?_
      obtain ⟨σG, HG, IG, wG, qG⟩ := z
      refine thnF (rt.run _ sG σG HG _ IG qG) fun b sK z => ?_
      obtain ⟨HK, IK, qK⟩ := z
      have fin : ∀ {s' : Shared} {H' : Hp}, Inv (X.blk sB HB scope env2 fp) ([] ++ pinsAt fp sF.heap) σG H' s' → Nx H' → ∃ m, m < n ∧ ∃ i H', Inv (X.blk sB HB scope env2 fp) [] (wipe σ (own.map (·.2))) H' s' ∧ tn i s'.heap ∧ (∀ b ∈ fp, H' b = none) ∧ W i m H' := by
        intro s' H' I' nx
        obtain ⟨m', hm, w'⟩ := hNx H' nx
        have pin' : ∀ b ∈ fp, ∀ o, sF.heap.get? b = some o → s'.heap.get? b = some o ∧ H' b = none := by
          intro b hb o e
          obtain ⟨z1, z2, _⟩ := I'.pin (b, o) (List.mem_append_right _ (List.mem_append_right _ (mem_pinsAt hb e)))
          exact ⟨z1, z2⟩
        have len : (wipe σ (own.map (·.2))).length = σG.length := by
          rw [← wG, wipe_length]
        refine ⟨m', hm, i + 1, H', (I'.unpinned (pins := [])).weak len (fun j v e => ?_), TR.keep _ _ _ stF fun b hb o e => (pin' b hb o e).1, fun b hb => ?_, w'⟩
        · rw [← wG] at e
          exact (wipe_some e).1
        · obtain ⟨o, e, _⟩ := TR.obj _ _ stF b hb
          exact (pin' b hb o e).2
      cases b with
      | false =>
        simp only [Bool.false_eq_true, if_false] at qK ⊢
        exact fin IK qK
      | true =>
        simp only [if_true] at qK ⊢
        refine thnF (rk.run _ sK σG HK _ IK qK) fun z sL y => ?_
        obtain ⟨yk, HL, IL, rL, qL⟩ := y
        refine thnF (rv.run _ sL σG HL _ IL qL) fun z2 sM y => ?_
        obtain ⟨yv, HM, IM, rM, H6, put, nx⟩ := y
        exact put_comp (X := X.blk sB HB scope env2 fp) hu IM put rL rM fun s' I' => fin I' nx
  exact codeAny_compStart_dict loop (TR.self X.A 0 _ _ _ stC loop)
/-- a walk of known length under such a comprehension -/
theorem dcT_it {J : It} {n : Nat} {Pre : Hp → Prop} {Y : Nat → Hp → V → Hp → Prop} (w : Walk J n Pre Y) {σ : St} {vs : List Nat} {H1 : Hp} {D : Addr} {Qd : Hp → Prop} (Pv : Nat → Hp → Prop) (h0 : Pv 0 (upd H1 D (.dT []))) (hl : ∀ i H, i ≤ n → Pv i H → Pre H)
    (st : ∀ i x H H', i < n → Pv i H → Y i H x H' → g x (wipe σ vs) H' fun σ2 H2 => wipe σ2 vs = wipe σ vs ∧ tt σ2 H2 fun b H3 => if b = true then tk σ2 H3 fun y H4 => tv σ2 H4 fun z H5 => ∃ H6, DPut H5 D y z H6 ∧ Pv (i + 1) H6 else Pv (i + 1) H3)
    (hd : ∀ H, Pv n H → Qd H) : ∃ W : Nat → Nat → Hp → Prop, (∃ m, W 0 m (upd H1 D (.dT []))) ∧ ∀ i m H, W i m H →
      (J.stop i H ∧ Qd H) ∨ (J.go i H ∧ ∃ Nx : Hp → Prop, (∀ H', Nx H' → ∃ m', m' < m ∧ W (i + 1) m' H') ∧ ∀ x H', J.yld i H x H' → g x (wipe σ vs) H' fun σ2 H2 => wipe σ2 vs = wipe σ vs ∧ tt σ2 H2 fun b H3 =>
        if b = true then tk σ2 H3 fun y H4 => tv σ2 H4 fun z H5 => ∃ H6, DPut H5 D y z H6 ∧ Nx H6 else Nx H3) := by
  refine ⟨fun i m H => m = n - i ∧ i ≤ n ∧ Pv i H, ⟨n, (Nat.sub_zero n).symm, Nat.zero_le n, h0⟩, ?_⟩
  rintro i m H ⟨rfl, le, p⟩
  have pre := hl i H le p
  rcases Nat.lt_or_ge i n with lt | ge
  · exact .inr ⟨w.goes i H lt pre, Pv (i + 1), fun H' p' => ⟨n - (i + 1), by omega, rfl, lt, p'⟩, fun x H' y => st i x H H' lt p (w.yields i H x H' lt pre y)⟩
  · obtain rfl : i = n := Nat.le_antisymm le ge
    exact .inl ⟨w.stops H pre, hd H p⟩
end
end L2
set_option Elab.async false
set_option linter.all false
set_option maxRecDepth 100000
set_option maxHeartbeats 3200000
namespace TxS
open PySem PySem.Spec PyProof.Rows L2
/-! ### sets of texts: set(list of texts), sorted(set) -/
def txOf (e : Int × Value) : Str := match e.2 with | .str z _ => z | _ => Str.empty
def TxE (P : Program) (w : World) (e : Int × Value) : Prop := ∃ z tk, e.2 = Value.str z tk ∧ e.1 = (PySem.strKind P w).hash z
/-- the set at a holds just the texts of L -/
def TxR (P : Program) (w : World) (h : Heap) (a : Addr) (L : List Str) : Prop :=
  ∃ o es ep t, h.get? a = some o ∧ o.ExactSet ∧ o.data = .set es ep t ∧ (∀ e ∈ es.toList, TxE P w e) ∧ (es.toList.map txOf).Nodup ∧ (∀ z, z ∈ es.toList.map txOf ↔ z ∈ L) ∧ es.size ≤ L.length ∧ t.fits es.size = true ∧ Ris t.place.toList ∧ (w.params.followText "set-order" = true ∨ t.led = true)
section
variable {P : Program} {w : World} {h h' : Heap} {a : Addr} {L : List Str}
theorem TxR.at (R : TxR P w h a L) (k : ∀ o, h.get? a = some o → h'.get? a = some o) : TxR P w h' a L := by
  obtain ⟨o, es, ep, t, e, r⟩ := R
  exact ⟨o, es, ep, t, k o e, r⟩
theorem tx_elems {l : List (Int × Value)} (g : ∀ e ∈ l, TxE P w e) : ElemsOf (PySem.strKind P w) l := fun e he => by
  obtain ⟨z, tk, h1, h2⟩ := g e he
  rw [h1]
  exact ⟨⟨z, strKind_is _ _ _ _, h2⟩, rfl⟩
theorem tx_is {e : Int × Value} (g : TxE P w e) (z : Str) : (PySem.strKind P w).is z e.2 = true ↔ txOf e = z := by
  obtain ⟨y, tk, h1, _⟩ := g
  unfold txOf
  rw [h1]
  constructor
  · intro q
    obtain ⟨t, e⟩ := Value.isStrOf_shape (show Value.isStrOf z (.str y tk) = true from q)
    cases e
    rfl
  · rintro rfl
    exact strKind_is _ _ _ _
theorem tx_mem {l : List (Int × Value)} (g : ∀ e ∈ l, TxE P w e) (z : Str) : z ∈ l.map txOf ↔ ∃ e ∈ l, (PySem.strKind P w).is z e.2 = true := by
  rw [List.mem_map]
  constructor
  · rintro ⟨e, he, q⟩
    exact ⟨e, he, (tx_is (g e he) z).mpr q⟩
  · rintro ⟨e, he, q⟩
    exact ⟨e, he, (tx_is (g e he) z).mp q⟩
end
section
variable {P : Program} {w : World} {A : Around} {E : Value → Shared → Prop} {s : Shared} {a : Addr} {L : List Str}
theorem tail_tx {g : Bool → Sem Unit} (hg : ∀ (b : Bool) (s₁ : Shared) (Q' : Unit → Shared → Prop), Q' () s₁ → wpAny (model P w) A (g b) Q' E s₁) {o : Obj} {es : Array (Int × Value)} {ep : Nat} {t : SetTable} (ho : s.heap.get? a = some o) (hex : o.ExactSet) (hd : o.data = .set es ep t)
    {es1 : Array (Int × Value)} {t2 : SetTable} (g1 : ∀ e ∈ es1.toList, TxE P w e) (nd1 : (es1.toList.map txOf).Nodup) (m1 : ∀ z, z ∈ es1.toList.map txOf ↔ z ∈ L) (z1 : es1.size ≤ L.length) (hL : L.length < scanBound) (f2 : t2.fits es1.size = true) (r2 : Ris t2.place.toList)
    (l2 : w.params.followText "set-order" = true ∨ t2.led = true) {wasDummy : Bool} {R : Option Bool → Shared → Prop} (hR : ∀ h', Heap.SameBut a s.heap h' → TxR P w h' a L → R (some true) { s with heap := h' }) :
    wpAny (model P w) A (do
        storeSet a es1 t2
        if (!wasDummy && t2.tooFull) = true then do
            g (relayAll t2 es1 (SetTable.grown es1.size)).2.2
            storeSet a (relayAll t2 es1 (SetTable.grown es1.size)).1 (relayAll t2 es1 (SetTable.grown es1.size)).2.1
            pure (some true)
          else pure (some true)) R E s := by
  have b1 : es1.size < scanBound := Nat.lt_of_le_of_lt z1 hL
  refine wpAny_bind (wpAny_storeSet_of ho hd ?_ (fits_of_scanBound b1))
  have at1 := store_at (es' := es1) (t' := t2) ho hd
  have sb := Heap.SameBut.update s.heap a (Obj.putSet es1 t2)
  split
  · have pm := relayAll_perm t2 es1 (SetTable.grown es1.size)
    have f3 := relayAll_fits t2 es1 (SetTable.grown es1.size)
    have r3 := relayAll_ris t2 es1 (SetTable.grown es1.size)
    have l3 := relayAll_led t2 es1 (SetTable.grown es1.size)
    generalize relayAll t2 es1 (SetTable.grown es1.size) = Z at pm f3 r3 l3 ⊢
    obtain ⟨es2, t3, gave⟩ := Z
    dsimp only at pm f3 r3 l3 ⊢
    have sz : es2.size = es1.size := by
      rw [← Array.length_toList, pm.length_eq, Array.length_toList]
    refine wpAny_bind (hg _ _ _ (wpAny_bind (wpAny_storeSet_of at1 rfl (wpAny_pure (hR _ (sb.trans (Heap.SameBut.update _ a _)) ?_)) (fits_of_scanBound (by rw [sz]; exact b1)))))
    refine ⟨_, es2, _, t3, store_at (es' := es2) (t' := t3) at1 rfl, hex, rfl, fun e he => g1 e (pm.mem_iff.mp he), (pm.map txOf).nodup_iff.mpr nd1, fun z => (pm.map txOf).mem_iff.trans (m1 z), by rw [sz]; exact z1, f3, r3, l2.imp id fun z => ?_⟩
    rw [l3]
    exact z
  · exact wpAny_pure (hR _ sb ⟨_, es1, _, t2, at1, hex, rfl, g1, nd1, m1, z1, f2, r2, l2⟩)
theorem add_tx {z : Str} {tk : Tok} {Q : Bool → Shared → Prop} (R : TxR P w s.heap a L) (room : L.length + 1 < scanBound) (hQ : ∀ b h', Heap.SameBut a s.heap h' → TxR P w h' a (L ++ [z]) → Q b { s with heap := h' }) :
    wpAny (model P w) A (setAddHashed a (.str z tk) ((PySem.strKind P w).hash z)) Q E s := by
  obtain ⟨o, es, ep, t, ho, hex, hd, g, nd, mm, hz, hf, hr, hl⟩ := R
  have sc : (Value.str z tk).scannable = true := rfl
  have el : ElemsOf (PySem.strKind P w) es.toList := tx_elems g
  have few : es.size < scanBound := by omega
  unfold setAddHashed setAddHashedIn
  refine wpAny_holding (wpAny_bind (wpAny_setState_of ho hd hf ?_))
  dsimp only
  rw [byScan_of sc few el]
  simp only [↓reduceIte]
  unfold setAddByScan
  refine wpAny_bind (wpAny_bind (wpAny_rule (wpAny_bind (wpAny_setScan_of (strKind_is P w z tk) ho hd hf el ?_))))
  cases hfi : List.findIdx? (fun e => (PySem.strKind P w).is z e.2) es.toList with
  | some j =>
    obtain ⟨hj, pj, _⟩ := List.findIdx?_eq_some_iff_getElem.mp hfi
    have inL : z ∈ L := (mm z).mp ((tx_mem g z).mpr ⟨es.toList[j], List.getElem_mem hj, pj⟩)
    refine wpAny_pure (wpAny_pure (hQ _ s.heap (Heap.SameBut.refl a s.heap) ⟨o, es, ep, t, ho, hex, hd, g, nd, fun y => ?_, by rw [List.length_append]; omega, hf, hr, hl⟩))
    rw [mm y, List.mem_append, List.mem_singleton]
    exact ⟨.inl, fun q => q.elim id fun e => e ▸ inL⟩
  | none =>
    have out : z ∉ es.toList.map txOf := fun q => by
      obtain ⟨e, he, c⟩ := (tx_mem g z).mp q
      rw [List.findIdx?_eq_none_iff.mp hfi e he] at c
      cases c
    have hgw : ∀ (b : Bool) {s₁ : Shared} {Q' : Unit → Shared → Prop}, Q' () s₁ → wpAny (model P w) A (match b with | true => rule "set.scan.the-table-gave-way" | false => pure ()) Q' E s₁ := fun b s₁ Q' q => by
      cases b
      · exact wpAny_pure q
      · exact wpAny_rule q
    have pm := layNew_perm t es ((PySem.strKind P w).hash z) (.str z tk)
    have f1 := layNew_fits t es ((PySem.strKind P w).hash z) (.str z tk)
    have r1 := layNew_ris t es ((PySem.strKind P w).hash z) (.str z tk) hr
    have l1 := layNew_led t es ((PySem.strKind P w).hash z) (.str z tk)
    dsimp only
    generalize layNew t es ((PySem.strKind P w).hash z) (.str z tk) = Z at pm f1 r1 l1 ⊢
    obtain ⟨es1, t1, wasDummy, gave⟩ := Z
    dsimp only at pm f1 r1 l1 ⊢
    rw [Array.toList_push] at pm
    have pc : es1.toList.Perm (((PySem.strKind P w).hash z, Value.str z tk) :: es.toList) := pm.trans (List.perm_append_singleton _ _)
    have pk : (es1.toList.map txOf).Perm (z :: es.toList.map txOf) := pc.map txOf
    have g1 : ∀ e ∈ es1.toList, TxE P w e := fun e he => by
      rcases List.mem_cons.mp (pc.mem_iff.mp he) with q | q
      · rw [q]
        exact ⟨z, tk, rfl, rfl⟩
      · exact g e q
    have nd1 : (es1.toList.map txOf).Nodup := pk.nodup_iff.mpr (List.nodup_cons.mpr ⟨out, nd⟩)
    have m1 : ∀ y, y ∈ es1.toList.map txOf ↔ y ∈ L ++ [z] := fun y => by
      rw [pk.mem_iff, List.mem_cons, List.mem_append, List.mem_singleton, mm y]
      exact Or.comm
    have sz : es1.size = es.size + 1 := by
      rw [← Array.length_toList, pc.length_eq, List.length_cons, Array.length_toList]
    have z1 : es1.size ≤ (L ++ [z]).length := by
      rw [List.length_append, sz]
      exact Nat.succ_le_succ hz
    have lL : (L ++ [z]).length < scanBound := by
      rw [List.length_append]
      exact room
    have led1 : w.params.followText "set-order" = true ∨ t1.led = true := hl.imp id fun q => by
      rw [l1]
      exact q
    have gw2 : ∀ (b : Bool) (s₁ : Shared) (Q' : Unit → Shared → Prop), Q' () s₁ → wpAny (model P w) A (match b with | true => rule "set.scan.the-table-gave-way" | false => pure ()) Q' E s₁ := fun b s₁ Q' q => hgw b q
    refine wpAny_bind (hgw _ ?_)
    split
    · refine wpAny_bind ?_
      rw [hashByValue_scannable 8 sc]
      refine wpAny_pure ?_
      refine tail_tx gw2 ho hex hd g1 nd1 m1 z1 lL ?_ ?_ ?_ ?_
      · first | (split <;> first | exact f1 | exact SetTable.fits_plain_off f1) | exact f1
      · first | (split <;> exact r1) | exact r1
      · first | (split <;> exact led1) | exact led1
      · intro h' sb r
        dsimp only
        exact wpAny_pure (hQ _ h' sb r)
    · refine wpAny_bind (wpAny_pure ?_)
      simp only [↓reduceIte]
      refine tail_tx gw2 ho hex hd g1 nd1 m1 z1 lL f1 r1 led1 ?_
      intro h' sb r
      dsimp only
      exact wpAny_pure (hQ _ h' sb r)
end
end TxS
set_option Elab.async false
set_option linter.all false
set_option maxRecDepth 100000
set_option maxHeartbeats 3200000
namespace TxS
open PySem PySem.Spec PyProof.Rows L2
section
variable {P : Program} {w : World} {A : Around} {R : Result → Shared → Prop} {I : Addr} {fp wr : List Addr} {G : Array GenState → Array GenState → Prop} {n : Nat} {Pv : Nat → Value → Prop} {St : Nat → Shared → Prop}
/-- set.update's loop over texts -/
theorem loop_tx (W : WalksS P w A.in1 I fp wr G n Pv St) (S : Addr) (out : S ∉ fp) (xs : List Str) (hn : n = xs.length) (few : xs.length < 64) (val : ∀ i v, Pv i v → ∃ z t, xs[i]? = some z ∧ v = Value.str z t) :
    ∀ (k i : Nat) (s : Shared), n - i = k → i ≤ n → St i s → TxR P w s.heap S (xs.take i) → (∀ s', Moved (S :: wr) G s s' → TxR P w s'.heap S xs → R (.ok (.ret .none)) s') →
      codeAny (model P w) A (.builtin "set.update.loop" ⟨[.ref S, .ref I], []⟩) R s := by
  have out2 : S ∉ wr := fun q => out (W.sub _ q)
  have sub : ∀ b ∈ wr, b ∈ S :: wr := fun b hb => List.mem_cons_of_mem _ hb
  intro k
  induction k with
  | zero =>
    intro i s hk hi st hS hR
    obtain rfl : i = n := by omega
    apply codeAny_builtin F.entry_set_update_loop
    rw [Around.under_plainId F.plain_set_update_loop _]
    show wpAny _ A.in1 (pyNext (.ref I) >>= _) _ _ s
    apply wpAny_bind
    refine W.done s _ _ st fun s' mv => ?_
    show wpAny _ A.in1 (ret Value.none) _ _ s'
    refine wpAny_pure (hR s' (mv.mono sub) ?_)
    rw [hn, List.take_length] at hS
    exact hS.at fun o e => mv.heap S o out2 e
  | succ k ih =>
    intro i s hk hi st hS hR
    have lt : i < n := by omega
    apply codeAny_builtin F.entry_set_update_loop
    rw [Around.under_plainId F.plain_set_update_loop _]
    show wpAny _ A.in1 (pyNext (.ref I) >>= _) _ _ s
    apply wpAny_bind
    refine W.item i s _ _ lt st fun v s' hP st' mv => ?_
    obtain ⟨z, t, hz, rfl⟩ := val i v hP
    have hS' : TxR P w s'.heap S (xs.take i) := hS.at fun o e => mv.heap S o out2 e
    show wpAny _ A.in1 (holding [Value.str z t] (setAdd S (.str z t)) >>= _) _ _ s'
    refine wpAny_bind (wpAny_holding ?_)
    unfold setAdd
    refine wpAny_holding (wpAny_bind ((PySem.strKind P w).pyHash (k := z) (strKind_is _ _ _ _) ?_))
    refine add_tx (s := { s' with toks := s'.toks + 1 }) hS' (by rw [List.length_take]; unfold scanBound; omega) fun b h' sb hS2 => ?_
    have e : xs.take i ++ [z] = xs.take (i + 1) := by
      rw [List.take_succ, hz]
      rfl
    rw [e] at hS2
    refine wpAny_pure ⟨plainId_quiet F.plain_set_update_loop _, ih (i + 1) _ (by omega) lt (W.frame _ s' _ _ st' (Nat.le_succ _) fun b hb o e => ?_) hS2 fun s'' mv2 hS3 => ?_⟩
    · rw [sb.2 b fun q : b = S => out (by rw [← q]; exact hb)]
      exact e
    · refine hR s'' (Moved.trans W.gtrans ((mv.mono sub).then_heap (Nat.le_succ _) fun b o hb e => ?_) mv2) hS3
      rw [sb.2 b fun q : b = S => hb (by rw [q]; exact List.mem_cons_self)]
      exact e
end
def obj0 (w : World) : Obj := { cls := .type "set", dict := none, data := .set #[] 0 (.fresh 0 0 (!w.params.followText "set-order")) }
theorem fresh_tx {P : Program} {w : World} {h : Heap} {a : Addr} (ho : h.get? a = some (obj0 w)) : TxR P w h a [] := by
  refine ⟨_, #[], 0, _, ho, ⟨rfl, rfl, rfl⟩, rfl, fun e he => ?_, List.nodup_nil, fun z => Iff.rfl, Nat.le_refl _, rfl, List.Pairwise.nil, ?_⟩
  · cases he
  · show _ ∨ (!w.params.followText "set-order") = true
    cases w.params.followText "set-order"
    · exact .inr rfl
    · exact .inl rfl
section
variable {P : Program} {w : World} {A : Around} {E : Value → Shared → Prop} {s : Shared}
/-- set(xs), xs a list of texts -/
theorem call_set_tx {l : Addr} {items : Array Value} {xs : List Str} {Q : Value → Shared → Prop} (hh : A.handled = none) (hl : s.heap.IsList l items) (hi : StrsAre items.toList xs) (few : xs.length < 64)
    (h : ∀ (h' : Heap) (tk : Nat), TxR P w h' s.heap.objs.size xs → (∀ b o, s.heap.get? b = some o → h'.get? b = some o) → Q (.ref s.heap.objs.size) { s with heap := h', toks := tk }) :
    wpAny (model P w) A (call (.type "set") [.ref l]) Q E s := by
  obtain ⟨c, tl, hmro⟩ := F.called_set.mro
  have a1 := F.called_set.made
  have a2 := F.called_set.sub
  apply wpAny_call
  apply codeAny_of_tree
  show wpAny _ _ (callAny (.type "set") _) _ _ _
  refine wpAny_pure ⟨Code.quiet_builtin _ (by decide +kernel), codeAny_builtin F.entry_type_call ?_⟩
  rw [Around.under_plain (weight_type_call_type "set" [.ref l] []) rfl]
  have a3 := F.called_set.notType
  have a4 := F.called_set.canCreate
  have a5 := F.typeCall_set_1 (.ref l)
  repeat (any_goals (first | assumption | wp_step))
  refine codeAny_mono (code_set_led1 (.ref l) (E := E) (Q₁ := fun obj s₁ => obj = .ref s.heap.objs.size ∧ s₁ = { s with heap := s.heap.push (obj0 w) }) ⟨rfl, rfl⟩) fun r s₁ hr => ?_
  match r, hr with
  | .error e, hr => exact hr
  | .ok .next, hr => exact hr.elim
  | .ok .brk, hr => exact hr.elim
  | .ok .cont, hr => exact hr.elim
  | .ok (.ret obj), hr =>
    obtain ⟨rfl, rfl⟩ := hr
    have at0 : (s.heap.push (obj0 w)).get? s.heap.objs.size = some (obj0 w) := Heap.get?_push_size _ rfl
    have ty0 : Shared.TypeIs { s with heap := s.heap.push (obj0 w) } (.ref s.heap.objs.size) "set" := ⟨_, at0, rfl⟩
    have a6 := F.called_set.init.lookup
    have a7 := F.called_set.init.bind (.ref s.heap.objs.size)
    repeat (any_goals (first | assumption | wp_step))
    refine codeAny_mono (codeAny_call_builtin (R := wants (fun r s₂ => r = .none ∧ ∃ h' tk, s₂ = { s with heap := h', toks := tk } ∧ TxR P w h' s.heap.objs.size xs ∧ (∀ b o, s.heap.get? b = some o → h'.get? b = some o)) E)
      F.called_set.init.plain F.entry_set_init (check_set_init_1 ty0 ?_)) fun r₂ s₂ hr₂ => ?_
    · obtain ⟨ol, hol, hcl, nl, hdl⟩ := hl
      obtain ⟨ocls, odict, odata, oslots⟩ := ol
      simp only at hcl hdl
      subst hcl hdl
      have at1 : (s.heap.push (obj0 w)).get? l = some { cls := .type "list", dict := odict, data := .seq items nl, slots := oslots } := Heap.get?_push_of_some _ hol
      have b1 := F.sub_list_set
      have b2 := F.sub_list_frozenset
      have b3 : (Value.type "list" == Value.type "dict") = false := by decide
      have isl : (s.heap.push (obj0 w)).IsList l items := ⟨_, at1, rfl, nl, rfl⟩
      unfold Builtin.«set.__init__» noKeywords Builtin.Frozenset.updateFrom
      generalize ePI : pyIter = PI
      wp_walk
      subst ePI
      refine wpAny_pyIter_list isl (wpAny_bind (wpAny_runValue ?_))
      have l_lt : l < s.heap.objs.size := Heap.lt_size hol
      have hh3 : A.in1.in1.in1.handled = none := by simp [hh]
      have neI : l ≠ (s.heap.push (obj0 w)).objs.size := by
        rw [Heap.size_push]
        exact Nat.ne_of_lt (Nat.lt_succ_of_lt l_lt)
      have nin : s.heap.objs.size ∉ [(s.heap.push (obj0 w)).objs.size, l] := by
        rw [Heap.size_push]
        intro q
        rcases List.mem_cons.mp q with q | q
        · exact absurd q (Nat.ne_of_lt (Nat.lt_succ_self _))
        · exact absurd (List.mem_singleton.mp q) (Nat.ne_of_gt l_lt)
      have sz : items.size = xs.length := by
        rw [← StrsAre.len_eq hi, Array.length_toList]
      have val : ∀ (i : Nat) (v : Value), items[i]? = some v → ∃ z t, xs[i]? = some z ∧ v = Value.str z t := fun i v hv => by
        obtain ⟨t, e⟩ := SS.strs_at hi i v (by rw [Array.getElem?_toList]; exact hv)
        have lt : i < xs.length := by
          rw [← sz]
          exact (Array.getElem?_eq_some_iff.mp hv).1
        refine ⟨xs[i], t, List.getElem?_eq_getElem lt, ?_⟩
        rw [e, List.getD_eq_getElem?_getD, List.getElem?_eq_getElem lt]
        rfl
      refine loop_tx ((Walks.list hh3 _ l neI items).toS) s.heap.objs.size nin xs sz few val (items.size - 0) 0 _ (by omega) (Nat.zero_le _) ⟨⟨_, Heap.get?_push_size _ rfl, rfl, rfl⟩, (isl.push _)⟩ (fresh_tx (Heap.get?_push_of_some _ at0)) ?_
      intro s' mv hS'
      obtain ⟨h', g', d', tk', os'⟩ := s'
      obtain rfl : g' = s.gens := mv.gens
      obtain rfl : d' = s.drawn := mv.drawn
      obtain rfl : os' = s.os := mv.os
      show wpAny _ _ _ _ _ _
      refine wpAny_pure ?_
      show wpAny _ _ (ret Value.none) _ _ _
      refine wpAny_pure ⟨rfl, h', tk', rfl, hS', fun b o e => ?_⟩
      have b_lt := Heap.lt_size e
      refine mv.heap b o (fun q => ?_) (Heap.get?_push_of_some _ (Heap.get?_push_of_some _ e))
      rcases List.mem_cons.mp q with q | q
      · exact absurd q (Nat.ne_of_lt b_lt)
      · have q' := List.mem_singleton.mp q
        rw [Heap.size_push] at q'
        exact absurd q' (Nat.ne_of_lt (Nat.lt_succ_of_lt b_lt))
    · match r₂, hr₂ with
      | .error e, hr₂ => exact hr₂
      | .ok .next, hr₂ => exact hr₂.elim
      | .ok .brk, hr₂ => exact hr₂.elim
      | .ok .cont, hr₂ => exact hr₂.elim
      | .ok (.ret r), hr₂ =>
        obtain ⟨rfl, h', tk, rfl, hS', hk'⟩ := hr₂
        repeat (any_goals (first | assumption | wp_step))
        exact h _ _ hS' hk'
end
end TxS
set_option Elab.async false
set_option linter.all false
set_option maxRecDepth 100000
set_option maxHeartbeats 3200000
namespace L2
open PySem PySem.Spec PyProof.Rows
open TxS
/-- the set of the texts of L at a -/
def TxO (P : Program) (w : World) (a : Addr) (L : List Str) : HO := .ext fun h => TxR P w h a L
section
variable {X : Cx}
theorem txO_ok {P : Program} {w : World} {H : Hp} {h : Heap} {a : Addr} {L : List Str} (R : TxR P w h a L) : ObjOk P w H h a (TxO P w a L) := by
  have ⟨o, _, _, _, ho, _⟩ := R
  exact ⟨R, ⟨o, ho⟩, fun h1 h2 p k => TxR.at p k⟩
theorem strsV : ∀ {ys : List Str} {us : List Value}, Vals (ys.map V.str) us → StrsAre us ys
  | [], _, .nil => .nil
  | y :: ys, _, .cons r t => by
    obtain ⟨k, rfl⟩ := r
    exact .cons y k (strsV t)
/-- set(xs), xs a list of texts -/
def rSetTx (X : Cx) : List V → Hp → VK → Prop := fun xs H Q => ∃ (a : Addr) (ys : List Str), xs = [.ref a] ∧ SqL X.K H a (ys.map V.str) ∧ ys.length < 64 ∧ ∀ p, H p = none → Q (.ref p) (upd H p (TxO X.prog X.w p ys))
theorem cr_setTx (hc : X.calm = true) : CallR X (.type "set") (rSetTx X) := by
  intro pins s σ H xs us Q I r h
  obtain ⟨a, ys, rfl, hs, few, q⟩ := h
  cases r with
  | cons rx rr =>
    cases rr
    cases rx
    obtain ⟨its, rv, p, hz⟩ := I.list hs
    refine call_set_tx (I.ok.hd hc) p.isList (by simpa using strsV rv) few fun h' tk R kp => ?_
    exact ⟨.ref s.heap.objs.size, _, I.laid (t' := tk) kp (Nat.le_refl _) (txO_ok R), rfl, q _ (I.hok.fresh (Nat.le_refl _))⟩
/-- sorted(s), s such a set -/
def rSortTx (X : Cx) : List V → Hp → VK → Prop := fun xs H Q => ∃ (a : Addr) (L : List Str), xs = [.ref a] ∧ H a = some (TxO X.prog X.w a L) ∧ L.length < 64 ∧
  ∀ (ys : List Str) (p : Addr), ys.Nodup → (∀ z, z ∈ ys ↔ z ∈ L) → sortedS ys = true → H p = none → Q (.ref p) (upd H p (.lst (ys.map V.str)))
theorem cr_sortTx (hc : X.calm = true) : CallR X (.builtin "sorted") (rSortTx X) := by
  intro pins s σ H xs us Q I r h
  obtain ⟨a, L, rfl, ha, few, q⟩ := h
  cases r with
  | cons rx rr =>
    cases rr
    cases rx
    have R : TxR X.prog X.w s.heap a L := (I.hok a _ ha).1
    obtain ⟨o, es, ep, t, ho, hex, hd, g, nd, mm, hz, hf, hr, hl⟩ := R
    apply Calls.call_function_entry kind_sorted plain_sorted entry_sorted (args_sorted1 _)
    unfold Builtin.«sorted»
    refine wpAny_bind (m := checkCount "sorted" 1 1 _) (wpAny_pure (wpAny_bind ?_))
    refine collect_set (A := X.A.in1) (I.ok.hd hc) ⟨o, ho, hex.1, hd⟩ hf (by unfold scanBound; omega) hr hl fun s1 vs k1 lz g1 o1 pm => ?_
    have zs : ∃ zs : List Str, StrsAre vs zs ∧ zs.Perm (es.toList.map txOf) := by
      have key : ∀ l : List Value, (∀ v ∈ l, ∃ e ∈ es.toList, e.2 = v) → StrsAre l (l.map fun v => txOf (0, v)) := by
        intro l
        induction l with
        | nil => exact fun _ => .nil
        | cons v l ih =>
          intro hv
          obtain ⟨e, he, rfl⟩ := hv v List.mem_cons_self
          obtain ⟨z, tk, h1, _⟩ := g e he
          have t := ih fun u hu => hv u (List.mem_cons_of_mem _ hu)
          rw [List.map_cons]
          rw [h1]
          exact .cons z tk t
      refine ⟨vs.map fun v => txOf (0, v), key vs fun v hv => ?_, ?_⟩
      · obtain ⟨e, he, q⟩ := List.mem_map.mp (pm.mem_iff.mp hv)
        exact ⟨e, he, q⟩
      · have z := pm.map fun v => txOf (0, v)
        rw [List.map_map] at z
        exact z
    obtain ⟨zs, hS, pz⟩ := zs
    have lv : vs.length = zs.length := StrsAre.len_eq hS
    have lz64 : zs.length < 64 := by
      rw [pz.length_eq, List.length_map, Array.length_toList]
      omega
    obtain ⟨h', g', d', tk', os'⟩ := s1
    obtain rfl : g' = s.gens := g1
    obtain rfl : os' = s.os := o1
    refine wpAny_bind (wpAny_newList ?_ (by rw [lv, sizeLine_eq]; omega))
    have atL : (h'.push (seqObj "list" vs.toArray 0)).get? h'.objs.size = some (seqObj "list" vs.toArray 0) := Heap.get?_push_size _ rfl
    refine wpAny_bind (wpAny_holding (wpAny_call_entry slot_list_sort ⟨_, atL, rfl⟩ entry_list_sort (list_sort_treeK strKind_oneLt atL hS.keysOf (fun v₁ v₂ rest e => keyKind_strs (by rw [← e]; exact hS)) (by rw [lv]; exact lz64) fun st' hp hs => ⟨_, rfl, ?_⟩) (args_list_sort _)))
    obtain ⟨ys, y1, y2, y3⟩ := sorted_out_str hS hp hs
    obtain ⟨e', he'⟩ := sortedHeap_at (vs := vs) (out := (arrOf st').map (·.2)) atL
    have py := y2.trans pz
    have len : (ys.map V.str).length ≤ sizeLine := by
      rw [List.length_map, y2.length_eq, sizeLine_eq]
      omega
    have kp : ∀ b u, s.heap.get? b = some u → (sortedHeap (h'.push (seqObj "list" vs.toArray 0)) h'.objs.size vs ((arrOf st').map (·.2))).get? b = some u := fun b u e => by
      have k2 := k1 b u e
      have lt := Heap.lt_size k2
      rw [sortedHeap_old (Nat.ne_of_lt lt) (by rw [size_push']; exact Nat.lt_succ_of_lt lt)]
      exact Heap.get?_push_of_some _ k2
    have hn : H h'.objs.size = none := I.hok.fresh lz
    refine wpAny_pure ⟨_, rfl, .ref h'.objs.size, upd H h'.objs.size (.lst (ys.map V.str)), ?_, rfl, q ys _ (py.nodup_iff.mpr nd) (fun z => by rw [py.mem_iff]; exact mm z) y3 hn⟩
    have new : ObjOk X.prog X.w (upd H h'.objs.size (.lst (ys.map V.str))) (sortedHeap (h'.push (seqObj "list" vs.toArray 0)) h'.objs.size vs ((arrOf st').map (·.2))) h'.objs.size (.lst (ys.map V.str)) :=
      ⟨len, ((arrOf st').map (·.2)).toList, e', vals_of_strs y1, by rw [Array.toArray_toList]; exact he'⟩
    have J : Inv X pins σ (upd H h'.objs.size (.lst (ys.map V.str))) { s with heap := sortedHeap (h'.push (seqObj "list" vs.toArray 0)) h'.objs.size vs ((arrOf st').map (·.2)), gens := s.gens, drawn := d', toks := tk' } :=
      I.call (ch := []) (Un.laid kp lz hn) (I.hok.laid kp lz new) I.bare (fun _ z => nomatch z)
    exact J
end
/-! ### sorted(x), the items told by a relation of one's own -/
section
variable {X : Cx} {β : Type} {enc : β → PyData}
open PySem.W (EachIs dataLe AllAlike Sortable)
theorem each_R {R : V → β → Prop} : ∀ {vs : List V} {us : List Value} {bs : List β}, Vals vs us → Paired R vs bs → EachIs (fun u b => ∃ v, RelV v u ∧ R v b) us bs
  | _, _, _, .nil, .nil => .nil
  | _, _, _, .cons r rr, .cons d dd => .cons ⟨_, r, d⟩ (each_R rr dd)
theorem R_each {R : V → β → Prop} : ∀ {us : List Value} {bs : List β}, EachIs (fun u b => ∃ v, RelV v u ∧ R v b) us bs → ∃ vs, Vals vs us ∧ Paired R vs bs
  | _, _, .nil => ⟨[], .nil, .nil⟩
  | _, _, .cons ⟨v, r, d⟩ t => by
    obtain ⟨vs, h1, h2⟩ := R_each t
    exact ⟨v :: vs, .cons r h1, .cons d h2⟩
def rSortR (K : PySem.W.Frag) (enc : β → PyData) (R : Hp → V → β → Prop) : List V → Hp → VK → Prop := fun xs H Q => ∃ (a : Addr) (vs : List V) (bs : List β), xs = [.ref a] ∧ (SqL K H a vs ∨ SqT K H a vs) ∧ Paired (R H) vs bs ∧ (∀ v b, R H v b → Dp K H v (enc b)) ∧
  AllAlike (bs.map enc) ∧ Sortable (bs.map enc) ∧ (∀ b ∈ bs, (enc b).depth ≤ 50) ∧ ∀ (ys : List V) (p : Addr), H p = none → Paired (R H) ys (bs.mergeSort (dataLe false enc)) → Q (.ref p) (upd H p (.lst ys))
theorem cr_sortR {R : Hp → V → β → Prop} (hu : X.A.units + 64 < cLine) : CallR X (.builtin "sorted") (rSortR X.K enc R) := by
  intro pins s σ H xs us Q I r h
  obtain ⟨a, vs, bs, rfl, hs, hp, hR, hal, hk, hdp, q⟩ := h
  cases r with
  | cons rx rr =>
    cases rr
    cases rx
    obtain ⟨T, o, its, n, hT, ho, hc, hd, rv, hz⟩ : ∃ (T : String) (o : Obj) (its : List Value) (n : Nat), (T = "list" ∨ T = "tuple") ∧ s.heap.get? a = some o ∧ o.cls = .type T ∧ o.data = .seq its.toArray n ∧ Vals vs its ∧ vs.length ≤ sizeLine := by
      rcases hs with hs | hs
      · obtain ⟨its, rv, ⟨o, n, ho, hc, _, hd⟩, hz⟩ := I.list hs
        exact ⟨"list", o, its, n, .inl rfl, ho, hc, hd, rv, hz⟩
      · obtain ⟨its, rv, ⟨o, ho, hc, n, hd⟩, hz⟩ := I.tuple hs
        exact ⟨"tuple", o, its, n, .inr rfl, ho, hc, hd, rv, hz⟩
    have e := each_R rv hp
    have er : EachIs (fun v b => ∃ as, Reads s.heap v (enc b) as) its bs := e.mono fun u b ⟨v, rv, d⟩ => Dp.reads I _ _ _ (hR v b d) rv
    have le : bs.length ≤ sizeLine := by
      rw [← e.length, ← rv.length]
      exact hz
    refine PySem.SoX.sorted_seq hT ho hc hd e er hal hk le (fun b hb => ?_) fun h' d out kp nd hn hlen eo => ?_
    · have := hdp b hb
      omega
    · obtain ⟨ys, ry, py⟩ := R_each eo
      obtain ⟨k, hn⟩ := hn
      have nH := I.hok.none_at nd
      have lz : ys.length ≤ sizeLine := by
        rw [ry.length, hlen]
        exact le
      exact ⟨.ref d, _, I.laidN (h' := h') (o := .lst ys) (t' := s.toks) kp nd nH ⟨lz, out, k, ry, hn⟩, rfl, q ys d nH py⟩
end
end L2
set_option Elab.async false
set_option linter.all false
set_option maxRecDepth 100000
set_option maxHeartbeats 4000000
namespace LR
open PySem L2
open PySem.W (Frag nsIn findIn kitOne)
theorem sm100 {n : Nat} (h : n ≤ 100) : n ≤ sizeLine := by
  rw [sizeLine_eq]
  omega
theorem same_new {H : Hp} {p : Addr} {o : HO} (h : H p = none) : Same H (upd H p o) := fun b x e => by
  rw [upd_ne (ne_of_none e h)]
  exact e
/-- everything but what stands at p stays -/
def But (p : Addr) (H H' : Hp) : Prop := ∀ b o, b ≠ p → H b = some o → H' b = some o
theorem But.refl (p : Addr) (H : Hp) : But p H H := fun _ _ _ h => h
theorem But.trans {p : Addr} {H H1 H2 : Hp} (a : But p H H1) (b : But p H1 H2) : But p H H2 := fun c o n h => b c o n (a c o n h)
theorem But.of {p : Addr} {H H' : Hp} (a : Same H H') : But p H H' := fun b o _ h => a b o h
theorem But.upd {p : Addr} {H : Hp} {o : HO} : But p H (upd H p o) := fun b x n e => by
  rw [upd_ne n]
  exact e
theorem Same.sqT {K : Frag} {H H' : Hp} {a : Addr} {xs : List V} (e : Same H H') (h : SqT K H a xs) : SqT K H' a xs := by
  rcases h with (h | ⟨o, h⟩) | h
  · exact .inl (.inl (e _ _ h))
  · exact .inl (.inr ⟨o, e _ _ h⟩)
  · exact .inr h
theorem sqT_of {K : Frag} {H : Hp} {a : Addr} {xs : List V} (h : H a = some (.tup xs)) : SqT K H a xs := .inl (.inl h)
/-! ### what the program's checks of values say -/
def NotTy (K : Frag) (H : Hp) (x : V) (n : String) : Prop := ∃ t, TyX K H x t ∧ kitOne K t (.type n) = some false
theorem NotTy.of {K : Frag} {H : Hp} {x : V} {t n : String} (h : TyX K H x (.type t)) (k : kitB t n = some false) : NotTy K H x n := ⟨_, h, kit_ty k⟩
theorem tyT {K : Frag} {H : Hp} {a : Addr} {xs : List V} (h : SqT K H a xs) : TyX K H (.ref a) (.type "tuple") := by
  rcases h with (h | ⟨o, h⟩) | ⟨o, its, n, h, hc, _⟩
  · exact .base (.tup h)
  · exact .fTuple h
  · exact .kTuple h hc
inductive KInt (K : Frag) (H : Hp) : V → Bool → Prop
  | int (i : Int) : KInt K H (.int i) true
  | bl (b : Bool) : KInt K H (.bl b) false
  | oth {x : V} : NotTy K H x "int" → KInt K H x false
theorem TyX.mono {K : Frag} {H H' : Hp} {x : V} {t : Value} (h : TyX K H x t) (s : Same H H') : TyX K H' x t := by
  cases h with
  | base b =>
    cases b with
    | non => exact .base .non
    | bl y => exact .base (.bl y)
    | int i => exact .base (.int i)
    | str y => exact .base (.str y)
    | flt y => exact .base (.flt y)
    | lst e => exact .base (.lst (s _ _ e))
    | frz e => exact .base (.frz (s _ _ e))
    | tup e => exact .base (.tup (s _ _ e))
    | dK e => exact .base (.dK (s _ _ e))
    | dT e => exact .base (.dT (s _ _ e))
    | ins e a b c d f => exact .base (.ins (s _ _ e) a b c d f)
  | byt y => exact .byt y
  | set e => exact .set (s _ _ e)
  | kList e c => exact .kList e c
  | kTuple e c => exact .kTuple e c
  | kDict e c => exact .kDict e c
  | fTuple e => exact .fTuple (s _ _ e)
  | fDict e => exact .fDict (s _ _ e)
theorem NotTy.mono {K : Frag} {H H' : Hp} {x : V} {n : String} (h : NotTy K H x n) (s : Same H H') : NotTy K H' x n := by
  obtain ⟨t, h1, h2⟩ := h
  exact ⟨t, TyX.mono h1 s, h2⟩
theorem KInt.mono {K : Frag} {H H' : Hp} {x : V} {b : Bool} (h : KInt K H x b) (s : Same H H') : KInt K H' x b := by
  cases h with
  | int i => exact .int i
  | bl b => exact .bl b
  | oth n => exact .oth (n.mono s)
def lets : Str := "abcdefghijklmnopqrstuvwxyz"
def sgns : Str := "abcdefghijklmnopqrstuvwxyz0123456789"
def inS (z : Str) (c : Nat) : Bool := decide (c ∈ z.cps.toList)
/-- whether a text is a name -/
def nameS (z : Str) : Bool := decide (1 ≤ z.length) && decide (z.length ≤ 8) && (z.cps.toList.head?.any (inS lets)) && z.cps.toList.all (inS sgns)
inductive KName (K : Frag) (H : Hp) : V → Bool → Prop
  | str (z : Str) : z.length ≤ sizeLine → KName K H (.str z) (nameS z)
  | oth {x : V} : NotTy K H x "str" → KName K H x false
inductive KRow (K : Frag) (H : Hp) : V → Bool → Prop
  | oth {x : V} : NotTy K H x "tuple" → KRow K H x false
  | len {a : Addr} {xs : List V} : SqT K H a xs → xs.length ≠ 3 → KRow K H (.ref a) false
  | row {a : Addr} {x y z : V} {b c d : Bool} : SqT K H a [x, y, z] → KName K H x b → KInt K H y c → KInt K H z d → KRow K H (.ref a) (b && c && d)
theorem KName.mono {K : Frag} {H H' : Hp} {x : V} {b : Bool} (h : KName K H x b) (s : Same H H') : KName K H' x b := by
  cases h with
  | str z hz => exact .str z hz
  | oth n => exact .oth (n.mono s)
theorem KRow.mono {K : Frag} {H H' : Hp} {x : V} {b : Bool} (h : KRow K H x b) (s : Same H H') : KRow K H' x b := by
  cases h with
  | oth n => exact .oth (n.mono s)
  | len a b => exact .len (Same.sqT s a) b
  | row a b c d => exact .row (Same.sqT s a) (b.mono s) (c.mono s) (d.mono s)
/-! ### rows -/
abbrev RowD := Str × Int × Int
def rowV (r : RowD) : List V := [.str r.1, .int r.2.1, .int r.2.2]
def keyOf (r : RowD) : List Key := [.inr r.1, .inl r.2.1]
theorem keyOf_V (r : RowD) : (keyOf r).map kV = [.str r.1, .int r.2.1] := rfl
def RowAt (H : Hp) (v : V) (r : RowD) : Prop := ∃ a, v = V.ref a ∧ H a = some (.tup (rowV r))
def Rws (H : Hp) (vs : List V) (rows : List RowD) : Prop := Paired (RowAt H) vs rows
theorem RowAt.mono {H H' : Hp} {v : V} {r : RowD} (h : RowAt H v r) (s : Same H H') : RowAt H' v r := by
  obtain ⟨a, e, h⟩ := h
  exact ⟨a, e, s _ _ h⟩
theorem Rws.mono {H H' : Hp} {vs : List V} {rows : List RowD} (h : Rws H vs rows) (s : Same H H') : Rws H' vs rows := Paired.mapP h fun _ _ z => z.mono s
structure Good (rows : List RowD) : Prop where
  nm : ∀ r ∈ rows, nameS r.1 = true
  nd : (rows.map keyOf).Nodup
  ln : rows.length ≤ 60
theorem nthP {α β : Type} {R : α → β → Prop} {xs : List α} {ys : List β} (h : Paired R xs ys) : ∀ {i : Nat} {x : α}, xs[i]? = some x → ∃ y, ys[i]? = some y ∧ R x y := by
  induction h with
  | nil =>
    intro i x e
    cases e
  | cons r t ih =>
    intro i x e
    cases i with
    | zero =>
      cases e
      exact ⟨_, rfl, r⟩
    | succ i => exact ih e
theorem val_none {κ : Type} [DecidableEq κ] {kvs : List (κ × V)} {k : κ} (h : k ∉ kvs.map (·.1)) : valV kvs k = none := by
  have e : kvs.find? (fun kv => decide (kv.1 = k)) = none := by
    rw [List.find?_eq_none]
    intro p hp z
    exact h (List.mem_map.mpr ⟨p, hp, of_decide_eq_true z⟩)
  unfold valV
  rw [e]
  rfl
theorem put_new {κ : Type} [DecidableEq κ] {kvs : List (κ × V)} {k : κ} {v : V} (h : k ∉ kvs.map (·.1)) : putK kvs k v = kvs ++ [(k, v)] := by
  unfold putK
  rw [if_neg]
  intro z
  rw [valV_any, val_none h] at z
  cases z
/-- the key of the row at i is none of those before it -/
theorem key_new {rows : List RowD} (h : (rows.map keyOf).Nodup) {i : Nat} {r : RowD} (e : rows[i]? = some r) (f : RowD → V) : keyOf r ∉ ((rows.take i).map fun r => (keyOf r, f r)).map (·.1) := by
  rw [List.map_map]
  intro z
  obtain ⟨q, hq, eq⟩ := List.mem_map.mp z
  obtain ⟨j, hj, ej⟩ := List.getElem_of_mem hq
  rw [List.length_take] at hj
  have h1 : rows[j]? = some q := by
    rw [List.getElem_take] at ej
    rw [List.getElem?_eq_getElem (by omega), ej]
  have h2 : (rows.map keyOf)[j]? = some (keyOf r) := by
    rw [List.getElem?_map, h1]
    exact congrArg some eq
  have h3 : (rows.map keyOf)[i]? = some (keyOf r) := by
    rw [List.getElem?_map, e]
    rfl
  obtain ⟨g2, e2⟩ := List.getElem?_eq_some_iff.mp h2
  obtain ⟨g3, e3⟩ := List.getElem?_eq_some_iff.mp h3
  exact List.pairwise_iff_getElem.mp h j i g2 g3 (by omega) (e2.trans e3.symm)
theorem take_map_succ {α β : Type} {l : List α} {i : Nat} {x : α} (e : l[i]? = some x) (f : α → β) : (l.take (i + 1)).map f = (l.take i).map f ++ [f x] := by
  rw [List.take_succ, e, List.map_append]
  rfl
theorem KRow.of {K : Frag} {H : Hp} {v : V} {r : RowD} (h : RowAt H v r) (n : nameS r.1 = true) : KRow K H v true := by
  obtain ⟨a, rfl, h⟩ := h
  have z : KRow K H (.ref a) (nameS r.1 && true && true) := .row (sqT_of h) (.str _ ?_) (.int _) (.int _)
  · rw [n] at z
    exact z
  · unfold nameS at n
    simp only [Bool.and_eq_true, decide_eq_true_eq] at n
    exact sm100 (by omega)
def enc (r : RowD) : PyData := .tuple [.str r.1, .int r.2.1, .int r.2.2]
def srt (rows : List RowD) : List RowD := rows.mergeSort (PySem.W.dataLe false enc)
theorem RowAt.dp {K : Frag} {H : Hp} {v : V} {r : RowD} (h : RowAt H v r) : Dp K H v (enc r) := by
  obtain ⟨a, rfl, h⟩ := h
  exact .tup (sqT_of h) (.cons (.str _) (.cons (.int _) (.cons (.int _) .nil)))
theorem enc_alike (rows : List RowD) : PySem.W.AllAlike (rows.map enc) := PySem.W.AllAlike.of fun b b' => by
  first
    | rfl
    | simp [enc, PySem.W.alike]
theorem enc_sort (rows : List RowD) : PySem.W.Sortable (rows.map enc) := .inl fun d hd => by
  obtain ⟨r, _, rfl⟩ := List.mem_map.mp hd
  exact ⟨_, _, rfl⟩
theorem enc_depth (r : RowD) : (enc r).depth ≤ 50 := by
  simp [enc, PyData.depth, PyData.depthAll]
/-- a table of rows -/
def TabAt (C : Addr) (H : Hp) (a : Addr) (rows : List RowD) : Prop := ∃ dx la ls pa, H a = some (.ins C dx [("lines", .ref la), ("places", .ref pa)]) ∧ H la = some (.tup ls) ∧ Rws H ls (srt rows) ∧ H pa = some (.dT (rows.map fun r => (keyOf r, V.int r.2.2)))
theorem TabAt.mono {C : Addr} {H H' : Hp} {a : Addr} {rows : List RowD} (h : TabAt C H a rows) (s : Same H H') : TabAt C H' a rows := by
  obtain ⟨dx, la, ls, pa, h1, h2, h3, h4⟩ := h
  exact ⟨dx, la, ls, pa, s _ _ h1, s _ _ h2, h3.mono s, s _ _ h4⟩
/-- a branch that is never taken -/
theorem pss_dead {X : Cx} {body : List Stmt} : PSs X body fun _ _ _ => False := ⟨fun _ _ _ _ _ _ h => h.elim⟩
theorem ps_dead {X : Cx} {st : Stmt} : PS X st fun _ _ _ => False := ⟨fun _ _ _ _ _ _ h => h.elim⟩
theorem pe_dead {X : Cx} {e : Expr} : PE X e fun _ _ _ => False := ⟨fun _ _ _ _ _ _ h => h.elim⟩
theorem yesIf {σ : St} {H : Hp} {A B : Hp → Prop} (h : A H) : tYes σ H (fun b H3 => if b = true then A H3 else B H3) := by
  show if true = true then A H else B H
  exact iteT h
theorem ixLK {X : Cx} {K : Frag} (h : X.K = K := by rfl) : IxR X (rIxL K) := h ▸ ix_list
theorem ixTK {X : Cx} {K : Frag} (h : X.K = K := by rfl) : IxR X (rIxT K) := h ▸ ix_tup
theorem hu64 {k : Nat} {A : Around} (hr : Room k A) : A.units + 64 < cLine := by
  have := hr.un
  omega
theorem hu65 {k : Nat} {A : Around} (hr : Room k A) : A.units + 65 < cLine := by
  have := hr.un
  omega
theorem hu0 {k : Nat} {A : Around} (hr : Room k A) : A.units < cLine := by
  have := hr.un
  omega
/-- a def of the text stands in the module under its name -/
structure DefAt (K : Frag) (mg : Str → Option Value) (x : Str) (st : Stmt) (f : Addr) (fd : FuncData) (ps : List Str) : Prop where
  F : Fun K x x st f fd
  b : Binds K fd ps []
  g : mg x = some (.ref f)
def item (st : Stmt) (i : Nat) : Stmt := match st with
  | .ClassDef (body := b) .. => b.getD i (.Pass ⟨0, 0, 0, 0⟩)
  | _ => .Pass ⟨0, 0, 0, 0⟩
end LR
set_option Elab.async false
set_option linter.all false
set_option maxRecDepth 100000
set_option maxHeartbeats 4000000
namespace LR
open PySem L2
/-! ### plain facts of rows as data -/
theorem eqv_enc (a b : RowD) : PyData.eqv (enc a) (enc b) = decide (a = b) := by
  obtain ⟨a1, a2, a3⟩ := a
  obtain ⟨b1, b2, b3⟩ := b
  simp only [enc, PyData.eqv, PyData.eqvAll, Bool.and_true]
  rw [Bool.eq_iff_iff]
  simp only [Bool.and_eq_true, beq_iff_eq, decide_eq_true_eq, Prod.mk.injEq]
theorem eqvAll_enc : ∀ l m : List RowD, PyData.eqvAll (l.map enc) (m.map enc) = decide (l = m)
  | [], [] => by simp [PyData.eqvAll]
  | [], _ :: _ => by simp [PyData.eqvAll]
  | _ :: _, [] => by simp [PyData.eqvAll]
  | a :: l, b :: m => by
    rw [List.map_cons, List.map_cons, PyData.eqvAll, eqv_enc, eqvAll_enc l m, Bool.eq_iff_iff]
    simp only [Bool.and_eq_true, decide_eq_true_eq, List.cons.injEq]
theorem any_enc (l : List RowD) (r : RowD) : ((l.map enc).any fun z => PyData.eqv z (enc r)) = decide (r ∈ l) := by
  rw [List.any_map, Bool.eq_iff_iff, List.any_eq_true, decide_eq_true_eq]
  constructor
  · rintro ⟨x, hx, e⟩
    have e' : PyData.eqv (enc x) (enc r) = true := e
    rw [eqv_enc, decide_eq_true_eq] at e'
    exact e' ▸ hx
  · intro h
    refine ⟨r, h, ?_⟩
    show PyData.eqv (enc r) (enc r) = true
    rw [eqv_enc]
    exact decide_eq_true rfl
theorem sgns_small : ∀ c ∈ sgns.cps.toList, c < 0x110000 := by decide +kernel
theorem name_ok {z : Str} (h : nameS z = true) : PyData.strOk z = true ∧ 1 ≤ z.length ∧ z.length ≤ 8 := by
  unfold nameS at h
  simp only [Bool.and_eq_true, decide_eq_true_eq] at h
  obtain ⟨⟨⟨h1, h2⟩, _⟩, h4⟩ := h
  refine ⟨?_, h1, h2⟩
  unfold PyData.strOk
  rw [← Array.all_toList, List.all_eq_true]
  intro c hc
  have := List.all_eq_true.mp h4 c hc
  exact decide_eq_true (sgns_small c (of_decide_eq_true this))
theorem canLay_rows : ∀ {l : List RowD}, (∀ r ∈ l, nameS r.1 = true) → PyData.canLayAll0 (l.map enc) = true
  | [], _ => rfl
  | r :: l, h => by
    rw [List.map_cons, PyData.canLayAll0, canLay_rows fun q hq => h q (List.mem_cons_of_mem _ hq)]
    simp [enc, PyData.canLay0, PyData.canLayAll0, (name_ok (h r (List.mem_cons_self ..))).1]
theorem depth_enc (r : RowD) : (enc r).depth = 1 := by simp [enc, PyData.depth, PyData.depthAll]
theorem depthAll_rows : ∀ l : List RowD, PyData.depthAll (l.map enc) ≤ 1
  | [] => by simp [PyData.depthAll]
  | r :: l => by
    have := depthAll_rows l
    have e := depth_enc r
    rw [List.map_cons, PyData.depthAll]
    omega
theorem shaped_enc {r : RowD} (h : nameS r.1 = true) : SeqAt.shaped (enc r) = true := by
  have h1 : PyData.canLay0 (enc r) = true := by simp [enc, PyData.canLay0, PyData.canLayAll0, (name_ok h).1]
  have h2 := depth_enc r
  unfold SeqAt.shaped
  rw [h1, h2]
  rfl
theorem shaped_tup {l : List RowD} (h : ∀ r ∈ l, nameS r.1 = true) : SeqAt.shaped (.tuple (l.map enc)) = true := by
  unfold SeqAt.shaped
  have h2 := depthAll_rows l
  rw [PyData.canLay0, canLay_rows h, Bool.true_and, decide_eq_true_eq, PyData.depth]
  omega
theorem shaped_lst {l : List RowD} (h : ∀ r ∈ l, nameS r.1 = true) : SeqAt.shaped (.list (l.map enc)) = true := by
  unfold SeqAt.shaped
  have h2 := depthAll_rows l
  rw [PyData.canLay0, canLay_rows h, Bool.true_and, decide_eq_true_eq, PyData.depth]
  omega
theorem srt_perm (l : List RowD) : (srt l).Perm l := List.mergeSort_perm _ _
theorem mem_srt {l : List RowD} {r : RowD} : r ∈ srt l ↔ r ∈ l := (srt_perm l).mem_iff
theorem srt_names {l : List RowD} (h : ∀ r ∈ l, nameS r.1 = true) : ∀ r ∈ srt l, nameS r.1 = true := fun r hr => h r (mem_srt.mp hr)
theorem srt_len (l : List RowD) : (srt l).length = l.length := (srt_perm l).length_eq
theorem Rws.dp {K : PySem.W.Frag} {H : Hp} : ∀ {vs : List V} {rows : List RowD}, Rws H vs rows → DpAll K H vs (rows.map enc)
  | _, _, .nil => .nil
  | _, _, .cons h t => .cons h.dp (Rws.dp t)
end LR
set_option Elab.async false
set_option linter.all false
set_option maxRecDepth 100000
set_option maxHeartbeats 4000000
namespace LR
open PySem L2
open PySem.W (Frag nsIn findIn kitOne)
def top (i : Nat) : Stmt := PySem.Challenge.pw_latestrows_k01_tables_made.main.body.getD i (.Pass ⟨0, 0, 0, 0⟩)
/-- the built-in names that the module leaves alone -/
structure Bl (mg : Str → Option Value) : Prop where
  isi : mg "isinstance" = none
  int : mg "int" = none
  boo : mg "bool" = none
  str : mg "str" = none
  tup : mg "tuple" = none
  len : mg "len" = none
  alL : mg "all" = none
  enu : mg "enumerate" = none
  srt : mg "sorted" = none
/-- the module's constants of names -/
structure Nm (mg : Str → Option Value) : Prop where
  a : ∃ t, mg "LETTERS" = some (.str lets t)
  b : ∃ t, mg "SIGNS" = some (.str sgns t)
  c : ∃ t, mg "MAX_LENGTH" = some (.int 8 t)
section
variable {P : Program} {w : World} {K : Frag} {mg : Str → Option Value} {base : Heap}
abbrev sInt : Stmt := top 8
theorem scInt : FnScope ["value"] ["value"] (defScope sInt) := ⟨rfl, rfl, rfl, by decide +kernel, rfl, by decide +kernel, by decide +kernel⟩
def spInt (K : Frag) : Sp := fun vs H Q _ => ∃ x b, vs = [x] ∧ KInt K H x b ∧ Q (.bl b) H
theorem ok_int {f : Addr} {fd : FuncData} {k : Nat} (F : Fun K "is_integer" "is_integer" sInt f fd) (T : Bl mg) : FnOk P w K mg base CX0 (k + 1) f fd ["value"] (spInt K) := by
  refine F.ok scInt (fun vs H Q E h => ?_) (fun cdv A outer s H vs Q E hr h => ?_)
  · obtain ⟨x, b, rfl, _⟩ := h
    rfl
  · obtain ⟨x, b, rfl, hx, q⟩ := h
    refine ⟨_, pss_one (ps_ret (pe_and (pe_callB call_isi (by rfl) T.isi (by decide +kernel) (pa_cons (pv 0) (pa_cons (pe_bltn (v := .ty "int") rfl T.int (by decide +kernel) rfl) pa_nil)))
      (pe_one (pe_not (pe_callB call_isi (by rfl) T.isi (by decide +kernel) (pa_cons (pv 0) (pa_cons (pe_bltn (v := .ty "bool") rfl T.boo (by decide +kernel) rfl) pa_nil))))))), ?_⟩
    cases hx with
    | int i => exact ⟨_, rfl, .int i, .ty "int", _, _, true, rfl, .ty _, .base (.int i), kit_ty (by decide +kernel), true, rfl, iteT ⟨_, rfl, .int i, .ty "bool", _, _, false, rfl, .ty _, .base (.int i), kit_ty (by decide +kernel), false, rfl, q⟩⟩
    | bl b => exact ⟨_, rfl, .bl b, .ty "int", _, _, true, rfl, .ty _, .base (.bl b), kit_ty (by decide +kernel), true, rfl, iteT ⟨_, rfl, .bl b, .ty "bool", _, _, true, rfl, .ty _, .base (.bl b), kit_ty (by decide +kernel), true, rfl, q⟩⟩
    | oth n =>
      obtain ⟨t, h1, h2⟩ := n
      exact ⟨_, rfl, x, .ty "int", _, _, false, rfl, .ty _, h1, h2, false, rfl, iteF q⟩
abbrev sName : Stmt := top 9
theorem scName : FnScope ["value", "sign"] ["value"] (defScope sName) := ⟨rfl, rfl, rfl, by decide +kernel, rfl, by decide +kernel, by decide +kernel⟩
def spName (K : Frag) : Sp := fun vs H Q _ => ∃ x b, vs = [x] ∧ KName K H x b ∧ ∀ H', Same H H' → Q (.bl b) H'
theorem ok_name {f : Addr} {fd : FuncData} {k : Nat} (F : Fun K "is_name" "is_name" sName f fd) (T : Bl mg) (N : Nm mg) : FnOk P w K mg base CX0 (k + 1) f fd ["value"] (spName K) := by
  obtain ⟨t1, m1⟩ := N.a
  obtain ⟨t2, m2⟩ := N.b
  obtain ⟨t3, m3⟩ := N.c
  refine F.ok scName (fun vs H Q E h => ?_) (fun cdv A outer s H vs Q E hr h => ?_)
  · obtain ⟨x, b, rfl, _⟩ := h
    rfl
  · obtain ⟨x, b, rfl, hx, q⟩ := h
    refine ⟨_, pss_cons (ps_if (PW.pt (pw_or (pt_not (pt_val (pe_callB call_isi (by rfl) T.isi (by decide +kernel) (pa_cons (pv 0) (pa_cons (pe_bltn (v := .ty "str") rfl T.str (by decide +kernel) rfl) pa_nil)))))
        (pw_or1 (pt_not (pt_chain op_le op_le pe_int (pe_callB call_len_str (by rfl) T.len (by decide +kernel) (pa_cons (pv 0) pa_nil)) (pe_glob (v := .int 8) rfl m3 ⟨_, rfl⟩)))))) (pss_one (ps_ret pe_bl)) pss_nil)
      (pss_one (ps_ret (pe_and (pe_cmpR op_in_sign (pe_ix ix_str (pv 0) pe_int (fun _ _ => rfl)) (pe_glob (v := .str lets) rfl m1 ⟨_, rfl⟩) rfl)
        (pe_one (pe_callB (cr_all rfl) (by rfl) T.alL (by decide +kernel) (pa_cons
          (pe_lc (own := [("sign", 1)]) (g := gName 1) (tt := tYes) rfl scName.nd (pi_str (pv 0)) (blkOk_by (N := ["value", "sign"]) (sc := defScope sName) (by decide +kernel)) (fun _ _ _ _ _ => pg_name (i := 1) scName.nd rfl (.inl rfl)) (fun _ _ _ _ _ => pts_nil)
            (fun _ _ _ _ _ => pe_cmpR op_in_sign (pv 1) (pe_glob (v := .str sgns) rfl m2 ⟨_, rfl⟩) rfl)) pa_nil)))))), ?_⟩
    cases hx with
    | oth n =>
      obtain ⟨t, h1, h2⟩ := n
      exact ⟨_, rfl, x, .ty "str", _, _, false, rfl, .ty _, h1, h2, false, rfl, iteT (iteT (q _ (.refl _)))⟩
    | str z hz =>
      refine ⟨_, rfl, .str z, .ty "str", _, _, true, rfl, .ty _, .base (.str z), kit_ty (by decide +kernel), true, rfl, iteF ?_⟩
      refine ⟨_, rfl, z, rfl, hz, 1, z.length, rfl, rfl, _, rfl, ?_⟩
      have hlen : z.length = z.cps.toList.length := (Array.length_toList (xs := z.cps)).symm
      by_cases h1 : (1 : Int) ≤ (z.length : Nat)
      · rw [decide_eq_true h1]
        refine iteT ⟨z.length, 8, rfl, rfl, _, rfl, ?_⟩
        by_cases h8 : ((z.length : Nat) : Int) ≤ 8
        · rw [decide_eq_true h8]
          refine iteF ?_
          obtain ⟨c, cs, hc⟩ : ∃ c cs, z.cps.toList = c :: cs := by
            cases e : z.cps.toList with
            | nil =>
              rw [hlen, e] at h1
              exact absurd h1 (by decide)
            | cons c cs => exact ⟨c, cs, rfl⟩
          have e1 : nameS z = (inS lets c && z.cps.toList.all (inS sgns)) := by
            unfold nameS
            rw [decide_eq_true (show 1 ≤ z.length by omega), decide_eq_true (show z.length ≤ 8 by omega), hc]
            rfl
          rw [e1] at q
          refine ⟨_, rfl, z, 0, c, rfl, rfl, hz, ?_, c, lets, rfl, rfl, _, rfl, ?_⟩
          · rw [hc]
            exact atI_nat (j := 0) rfl
          by_cases hl : c ∈ lets.cps.toList
          · have e2 : inS lets c = true := decide_eq_true hl
            rw [decide_eq_true hl]
            rw [e2, Bool.true_and] at q
            refine iteT ⟨_, rfl, z, rfl, fun D nD => ?_⟩
            refine lc_it walk_str (fun i H2 => Same H H2 ∧ H2 D = some (.lst (((z.cps.toList.take i).map (inS sgns)).map V.bl))) ⟨same_new nD, upd_same⟩ (fun _ _ _ _ => trivial) ?_ ?_
            · rintro i y H2 H3 hi ⟨s2, h2⟩ ⟨rfl, c2, hc2, rfl⟩
              refine ⟨rfl, yesIf ?_⟩
              refine ⟨_, rfl, c2, sgns, rfl, rfl, _, h2, ?_, fun b o e => ?_, ?_⟩
              · rw [List.length_map, List.length_map, List.length_take]
                have : z.length = z.cps.size := rfl
                rw [sizeLine_eq]
                omega
              · rw [upd_ne (ne_of_none e nD)]
                exact s2 _ _ e
              · rw [upd_same]
                have e3 : z.cps.toList[i]? = some c2 := by
                  rw [Array.getElem?_toList]
                  exact hc2
                rw [List.take_succ, e3, List.map_append, List.map_append]
                rfl
            · rintro H2 ⟨s2, h2⟩
              refine ⟨D, _, rfl, SqL.of h2, ?_⟩
              have e4 : z.cps.toList.take z.cps.size = z.cps.toList := List.take_of_length_le (by rw [Array.length_toList]; exact Nat.le_refl _)
              rw [e4, List.all_map]
              exact q _ s2
          · have e2 : inS lets c = false := decide_eq_false hl
            rw [decide_eq_false hl]
            rw [e2, Bool.false_and] at q
            exact iteF (q _ (.refl _))
        · rw [decide_eq_false h8]
          have e1 : nameS z = false := by
            unfold nameS
            rw [decide_eq_false (show ¬ z.length ≤ 8 by omega)]
            simp
          rw [e1] at q
          exact iteT (q _ (.refl _))
      · rw [decide_eq_false h1]
        have e1 : nameS z = false := by
          unfold nameS
          rw [decide_eq_false (show ¬ 1 ≤ z.length by omega)]
          rfl
        rw [e1] at q
        exact iteF ⟨_, rfl, iteT (q _ (.refl _))⟩
abbrev sRow : Stmt := top 11
theorem scRow : FnScope ["value"] ["value"] (defScope sRow) := ⟨rfl, rfl, rfl, by decide +kernel, rfl, by decide +kernel, by decide +kernel⟩
def spRow (K : Frag) : Sp := fun vs H Q _ => ∃ x b, vs = [x] ∧ KRow K H x b ∧ ∀ H', Same H H' → Q (.bl b) H'
theorem ok_row {f fI fN : Addr} {fd dI dN : FuncData} {k : Nat} (F : Fun K "is_row" "is_row" sRow f fd) (T : Bl mg) (N : Nm mg) (ZI : DefAt K mg "is_integer" sInt fI dI ["value"]) (ZN : DefAt K mg "is_name" sName fN dN ["value"]) :
    FnOk P w K mg base CX0 (k + 2) f fd ["value"] (spRow K) := by
  have GI : FnOk P w K mg base CX0 (k + 1) fI dI ["value"] (spInt K) := ok_int ZI.F T
  have GN : FnOk P w K mg base CX0 (k + 1) fN dN ["value"] (spName K) := ok_name ZN.F T N
  refine F.ok scRow (fun vs H Q E h => ?_) (fun cdv A outer s H vs Q E hr h => ?_)
  · obtain ⟨x, b, rfl, _⟩ := h
    rfl
  · obtain ⟨x, b, rfl, hx, q⟩ := h
    refine ⟨_, pss_cons (ps_if (PW.pt (pw_or (pt_not (pt_val (pe_callB call_isi (by rfl) T.isi (by decide +kernel) (pa_cons (pv 0) (pa_cons (pe_bltn (v := .ty "tuple") rfl T.tup (by decide +kernel) rfl) pa_nil)))))
        (pw_or1 (pt_cmpR op_ne (pe_callB call_len_seq (by rfl) T.len (by decide +kernel) (pa_cons (pv 0) pa_nil)) pe_int (nomark _))))) (pss_one (ps_ret pe_bl)) pss_nil)
      (pss_one (ps_ret (pe_and (pe_call GN hr rfl ZN.g ZN.F.kp ZN.b .nil pass0 (pa_cons (pe_ix ix_tup (pv 0) pe_int (fun _ _ => rfl)) pa_nil))
        (pe_and (pe_call GI hr rfl ZI.g ZI.F.kp ZI.b .nil pass0 (pa_cons (pe_ix ix_tup (pv 0) pe_int (fun _ _ => rfl)) pa_nil))
          (pe_one (pe_call GI hr rfl ZI.g ZI.F.kp ZI.b .nil pass0 (pa_cons (pe_ix ix_tup (pv 0) pe_int (fun _ _ => rfl)) pa_nil))))))), ?_⟩
    cases hx with
    | oth n =>
      obtain ⟨t, h1, h2⟩ := n
      exact ⟨_, rfl, x, .ty "tuple", _, _, false, rfl, .ty _, h1, h2, false, rfl, iteT (iteT (q _ (.refl _)))⟩
    | @len a xs hs hl =>
      have e : (!decide (V.int (xs.length : Nat) = V.int 3)) = true := by
        rw [decide_eq_false fun z => hl (by have := V.int.inj z; omega)]
        rfl
      exact ⟨_, rfl, .ref a, .ty "tuple", _, _, true, rfl, .ty _, tyT hs, kit_ty (by decide +kernel), true, rfl, iteF ⟨_, rfl, a, xs, rfl, .inr hs, rfl, true, congrArg V.bl e, iteT (q _ (.refl _))⟩⟩
    | @row a x0 x1 x2 b0 b1 b2 hs h0 h1 h2 =>
      refine ⟨_, rfl, .ref a, .ty "tuple", _, _, true, rfl, .ty _, tyT hs, kit_ty (by decide +kernel), true, rfl, iteF ⟨_, rfl, a, _, rfl, .inr hs, rfl, _, rfl, iteF ?_⟩⟩
      refine ⟨_, rfl, a, _, 0, x0, rfl, rfl, hs, atI_nat (j := 0) rfl, x0, b0, rfl, h0, fun H1 s1 => ⟨b0, rfl, ?_⟩⟩
      cases b0 with
      | false => exact iteF (q _ s1)
      | true =>
        have g1 := h1.mono s1
        have g2 := h2.mono s1
        refine iteT ⟨_, rfl, a, _, 1, x1, rfl, rfl, Same.sqT s1 hs, atI_nat (j := 1) rfl, x1, b1, rfl, g1, b1, rfl, ?_⟩
        cases b1 with
        | false => exact iteF (q _ s1)
        | true => exact iteT ⟨_, rfl, a, _, 2, x2, rfl, rfl, Same.sqT s1 hs, atI_nat (j := 2) rfl, x2, b2, rfl, g2, q _ s1⟩
abbrev sCheck : Stmt := top 12
theorem scCheck : FnScope ["rows", "places", "index", "row"] ["rows"] (defScope sCheck) := ⟨rfl, rfl, rfl, by decide +kernel, rfl, by decide +kernel, by decide +kernel⟩
def spCheck (K : Frag) : Sp := fun vs H Q _ => ∃ a xs rows, vs = [.ref a] ∧ SqT K H a xs ∧ Rws H xs rows ∧ Good rows ∧ ∀ H', Same H H' → Q .non H'
theorem ok_check {f fR fI fN : Addr} {fd dR dI dN : FuncData} {k : Nat} (F : Fun K "check_rows" "check_rows" sCheck f fd) (T : Bl mg) (N : Nm mg) (ZR : DefAt K mg "is_row" sRow fR dR ["value"]) (ZI : DefAt K mg "is_integer" sInt fI dI ["value"]) (ZN : DefAt K mg "is_name" sName fN dN ["value"]) :
    FnOk P w K mg base CX0 (k + 3) f fd ["rows"] (spCheck K) := by
  have GR : FnOk P w K mg base CX0 (k + 2) fR dR ["value"] (spRow K) := ok_row ZR.F T N ZI ZN
  refine F.ok scCheck (fun vs H Q E h => ?_) (fun cdv A outer s H vs Q E hr h => ?_)
  · obtain ⟨a, xs, rows, rfl, _⟩ := h
    rfl
  · obtain ⟨a, xs, rows, rfl, hs, hr2, hg, q⟩ := h
    refine ⟨_, pss_cons (ps_set (i := 1) scCheck.nd rfl (.inl rfl) pe_dnewT)
      (pss_one (ps_for PassesOwn.never rfl (pi_enumT (by rfl) T.enu (pa_cons (pv 0) pa_nil))
        (pg_tup rfl (pgs_cons (pg_name (i := 2) scCheck.nd rfl (.inl rfl)) (pgs_cons (pg_name (i := 3) scCheck.nd rfl (.inl rfl)) pgs_nil)))
        (pss_cons (ps_if (PW.pt (pw_or (pt_not (pt_val (pe_call GR hr rfl ZR.g ZR.F.kp ZR.b .nil pass0 (pa_cons (pv 3) pa_nil)))) (pw_or1 (pt_cmp (pc_din (hu_of hr) (pe_slice sl_tup (pv 3) po_none (po_some pe_int)) (pv 1)))))) pss_dead pss_nil)
        (pss_one (ps_dput (hu_of hr) (pv 1) (pe_slice sl_tup (pv 3) po_none (po_some pe_int)) pe_bl rfl))))), ?_⟩
    intro D nD
    have s0 : Same H (upd H D (.dT [])) := same_new nD
    refine ⟨_, rfl, a, xs, rfl, Same.sqT s0 hs, ?_⟩
    have hlen : xs.length = rows.length := Paired.length hr2
    refine for_it (walk_enumT (K := K) (a := a) (xs := xs)) (fun i σ H2 => ∃ x2 x3, σ = [some (.ref a), some (.ref D), x2, x3] ∧ Same H H2 ∧ H2 D = some (.dT ((rows.take i).map fun r => (keyOf r, V.bl true))))
      ⟨_, _, rfl, s0, upd_same⟩ (fun i σ H2 _ ⟨_, _, _, t, _⟩ => Same.sqT t hs) ?_ ?_
    · rintro i x σ H2 H3 hi ⟨x2, x3, rfl, t2, d2⟩ ⟨Tt, y1, y2, rfl, nT, rfl, e1, e2⟩
      cases e1
      obtain ⟨r, er, ra⟩ := nthP hr2 e2
      have t3 : Same H2 (upd H2 Tt (.tup [.int (i : Nat), y2])) := same_new nT
      refine ⟨Tt, [.int (i : Nat), y2], rfl, sqT_of upd_same, rfl, .int (i : Nat), [y2], rfl, y2, [], rfl, rfl, ?_⟩
      have ra3 := (ra.mono t2).mono t3
      have d3 := t3 _ _ d2
      have nm := hg.nm r (List.mem_of_getElem? er)
      refine ⟨_, rfl, y2, true, rfl, KRow.of ra3 nm, fun H4 s4 => ⟨true, rfl, iteF ?_⟩⟩
      obtain ⟨b, rfl, hb⟩ := ra3.mono s4
      refine ⟨_, rfl, 2, rfl, b, rowV r, rfl, sqT_of hb, (by show ¬ (HT.sIx 3 0 none = 0 ∧ HT.sIx 3 3 (some 2) = 3); decide), fun p np => ?_⟩
      have s5 : Same H4 (upd H4 p (.tup ((keyOf r).map kV))) := same_new np
      refine ⟨_, rfl, D, _, rfl, DGet.t (k := keyOf r) (s5 _ _ (s4 _ _ d3)) upd_same, false, ?_, iteF ?_⟩
      · rw [val_none (key_new hg.nd er _)]
        rfl
      refine ⟨_, rfl, _, rfl, 2, rfl, b, rowV r, rfl, sqT_of (s5 _ _ hb), (by show ¬ (HT.sIx 3 0 none = 0 ∧ HT.sIx 3 3 (some 2) = 3); decide), fun p6 n6 => ?_⟩
      have s6 : Same (upd H4 p (.tup ((keyOf r).map kV))) (upd (upd H4 p (.tup ((keyOf r).map kV))) p6 (.tup ((keyOf r).map kV))) := same_new n6
      have dd := s6 _ _ (s5 _ _ (s4 _ _ d3))
      refine ⟨D, _, rfl, DPut.t (k := keyOf r) dd upd_same ?_, ?_⟩
      · rw [List.length_map, List.length_take]
        have := hg.ln
        exact Nat.lt_of_le_of_lt (Nat.min_le_right _ _) (by rw [sizeLine_eq]; omega)
      · refine ⟨_, _, rfl, fun b o e => ?_, ?_⟩
        · rw [upd_ne (ne_of_none e nD)]
          exact s6 _ _ (s5 _ _ (s4 _ _ (t3 _ _ (t2 _ _ e))))
        · rw [upd_same, put_new (key_new hg.nd er _), take_map_succ er]
    · rintro σ H2 ⟨x2, x3, rfl, t2, _⟩
      exact q _ t2
end
end LR
set_option Elab.async false
set_option linter.all false
set_option maxRecDepth 100000
set_option maxHeartbeats 4000000
namespace LR
open PySem L2
open PySem.W (Frag nsIn findIn kitOne)
section
variable {P : Program} {w : World} {K : Frag} {mg : Str → Option Value} {base : Heap}
abbrev sTab : Stmt := top 13
abbrev sInit : Stmt := item sTab 0
theorem scInit : FnScope ["self", "rows", "feed", "time", "value"] ["self", "rows"] (defScope sInit) := ⟨rfl, rfl, rfl, by decide +kernel, rfl, by decide +kernel, by decide +kernel⟩
/-- what the text says of the class -/
structure TabC (K : Frag) (mg : Str → Option Value) (C : Addr) : Prop where
  cl : Cls K C
  nl : NoAttr K C "lines"
  np : NoAttr K C "places"
  g : mg "Table" = some (.ref C)
structure Prog (K : Frag) (mg : Str → Option Value) (fC fR fI fN : Addr) (dC dR dI dN : FuncData) : Prop where
  T : Bl mg
  N : Nm mg
  zC : DefAt K mg "check_rows" sCheck fC dC ["rows"]
  zR : DefAt K mg "is_row" sRow fR dR ["value"]
  zI : DefAt K mg "is_integer" sInt fI dI ["value"]
  zN : DefAt K mg "is_name" sName fN dN ["value"]
def sp0 (K : Frag) (C : Addr) : Sp := fun vs H Q _ => ∃ x p dx rest rows, vs = [.ref x, .ref p] ∧ H x = some (.ins C dx []) ∧ H p = some (.tup rest) ∧ Rws H rest rows ∧ Good rows ∧ ∀ H', But x H H' → TabAt C H' x rows → Q .non H'
def spInit (K : Frag) (C : Addr) : Sp := fun vs H Q E => ∃ ws rest, vs = ws ++ rest ∧ ws.length = (["self"] : List Str).length ∧ rest.length ≤ sizeLine ∧ ∀ p, H p = none → sp0 K C (ws ++ [.ref p]) (upd H p (.tup rest)) Q E
theorem ok_init {f C fC fR fI fN : Addr} {fd dC dR dI dN : FuncData} {k : Nat} (F : Fun K "__init__" "Table.__init__" sInit f fd) (Z : Prog K mg fC fR fI fN dC dR dI dN) (B : TabC K mg C) : FnR P w K mg base CX0 (k + 4) f (spInit K C) := by
  have GC : FnOk P w K mg base CX0 (k + 3) fC dC ["rows"] (spCheck K) := ok_check Z.zC.F Z.T Z.N Z.zR Z.zI Z.zN
  obtain ⟨oc, od, kV, doc, pm, an, cdv, ct, osl, rfl, lk, hcd⟩ := F.ex
  refine StX.fn_star (ps := ["self"]) (pv := "rows") (sp := sp0 K C) lk hcd scInit StX.cxUp_none (fun us rest hl => ?_) fun A outer s H vs Q E hr h => ?_
  · match us, hl, rest with
    | [u], _, [] => rfl
    | [u], _, r :: rs => rfl
  · obtain ⟨x, p, dx, rest, rows, rfl, hx, hp, hR, hG, q⟩ := h
    have key : ∃ t, PSs (cxOf CX0 P w K mg base ["self", "rows", "feed", "time", "value"] "Table.__init__" (defScope sInit) f cdv A outer s H E).nox (defBody sInit) t ∧ t { nx := fun _ H' => Q .non H', rt := Q } (start ["self", "rows", "feed", "time", "value"] [.ref x, .ref p]) H := by
      refine ⟨_, pss_cons (ps_expr (pe_call GC hr rfl Z.zC.g Z.zC.F.kp Z.zC.b .nil pass0 (pa_cons (pv 1) pa_nil)))
        (pss_cons (ps_fld (pv 0) (pe_tupleOf (by rfl) Z.T.tup (pe_callB (cr_sortR (enc := enc) (R := RowAt) (hu64 hr)) (by rfl) Z.T.srt (by decide +kernel) (pa_cons (pv 1) pa_nil))) rfl)
        (pss_one (ps_fld (pv 0) (pe_dcT (own := [("feed", 2), ("time", 3), ("value", 4)]) (g := gTup K 3 (gCons (gName 2) (gCons (gName 3) (gCons (gName 4) gNil)))) (tt := tYes) (tk := tTup (tCons (tVar 2) (tCons (tVar 3) tNil))) (tv := tVar 4) (hu0 hr) rfl scInit.nd (pi_tup (pv 1)) (blkOk_by (N := ["self", "rows", "feed", "time", "value"]) (sc := defScope sInit) (by decide +kernel))
          (fun _ _ _ _ _ => pg_tup rfl (pgs_cons (pg_name (i := 2) scInit.nd rfl (.inl rfl)) (pgs_cons (pg_name (i := 3) scInit.nd rfl (.inl rfl)) (pgs_cons (pg_name (i := 4) scInit.nd rfl (.inl rfl)) pgs_nil)))) (fun _ _ _ _ _ => pts_nil)
          (fun _ _ _ _ _ => pe_tup (pa_cons (pv 2) (pa_cons (pv 3) pa_nil))) (fun _ _ _ _ _ => pv 4)) rfl))), ?_⟩
      refine ⟨_, rfl, p, rest, rows, rfl, sqT_of hp, hR, hG, fun H1 s1 => ?_⟩
      refine ⟨_, rfl, p, rest, rows, rfl, .inr (sqT_of (s1 _ _ hp)), hR.mono s1, fun v b h => h.dp, enc_alike rows, enc_sort rows, fun b _ => enc_depth b, fun ys l nl hy => ?_⟩
      have s2 : Same H1 (upd H1 l (.lst ys)) := same_new nl
      refine .inl ⟨l, ys, rfl, SqL.of upd_same, fun t nt => ?_⟩
      have s3 : Same (upd H1 l (.lst ys)) (upd (upd H1 l (.lst ys)) t (.tup ys)) := same_new nt
      have s13 := (s1.trans s2).trans s3
      refine ⟨_, rfl, x, C, dx, [], rfl, s13 _ _ hx, B.cl, B.nl, by decide, ?_⟩
      generalize eH3 : upd (upd (upd H1 l (.lst ys)) t (.tup ys)) x (.ins C dx (putF "lines" (.ref t) [])) = H3
      have bx : But x H H3 := by
        rw [← eH3]
        exact (But.of s13).trans But.upd
      have hx3 : H3 x = some (.ins C dx [("lines", .ref t)]) := by
        rw [← eH3]
        exact upd_same
      have hp3 : H3 p = some (.tup rest) := bx _ _ (fun e => by rw [e, hx] at hp; cases hp) hp
      have tx : t ≠ x := fun e => by
        rw [e] at nt
        rw [s2 _ _ (s1 _ _ hx)] at nt
        cases nt
      have ht3 : H3 t = some (.tup ys) := by
        rw [← eH3, upd_ne tx]
        exact upd_same
      have rx : ∀ {vs : List V} {rs : List RowD}, Rws H1 vs rs → Rws H3 vs rs := fun h => Paired.mapP h fun v r z => by
        obtain ⟨a, e, ha⟩ := z
        refine ⟨a, e, ?_⟩
        rw [← eH3, upd_ne fun e => by rw [e, s1 _ _ hx] at ha; cases ha]
        exact s3 _ _ (s2 _ _ ha)
      have hy3 := rx hy
      have hR3 := rx (hR.mono s1)
      refine ⟨_, rfl, p, rfl, ⟨rest, sqT_of hp3⟩, fun D nD => ?_⟩
      have hlen : rest.length = rows.length := Paired.length hR3
      refine dcT_it (walk_tup (K := K) (a := p) (xs := rest)) (fun i H5 => Same H3 H5 ∧ H5 D = some (.dT ((rows.take i).map fun r => (keyOf r, V.int r.2.2)))) ⟨same_new nD, upd_same⟩ (fun i H5 _ h => sqT_of (h.1 _ _ hp3)) ?_ ?_
      · rintro i y H5 H6 hi ⟨s5, d5⟩ ⟨rfl, hy⟩
        obtain ⟨r, er, ra⟩ := nthP hR3 hy
        obtain ⟨b, rfl, hb⟩ := ra.mono s5
        refine ⟨b, rowV r, rfl, sqT_of hb, rfl, .str r.1, [.int r.2.1, .int r.2.2], rfl, .int r.2.1, [.int r.2.2], rfl, .int r.2.2, [], rfl, rfl, rfl, yesIf ?_⟩
        refine ⟨_, rfl, _, rfl, sm100 (Nat.le_of_ble_eq_true rfl), fun c nc => ⟨_, rfl, _, DPut.t (k := keyOf r) (same_new nc _ _ d5) upd_same ?_, fun b o e => ?_, ?_⟩⟩
        · rw [List.length_map, List.length_take]
          have := hG.ln
          exact Nat.lt_of_le_of_lt (Nat.min_le_right _ _) (by rw [sizeLine_eq]; omega)
        · rw [upd_ne (ne_of_none e nD)]
          exact same_new nc _ _ (s5 _ _ e)
        · rw [upd_same, put_new (key_new hG.nd er _), take_map_succ er]
      · rintro H5 ⟨s5, d5⟩
        rw [hlen, List.take_length] at d5
        refine ⟨_, rfl, x, C, dx, [("lines", .ref t)], rfl, s5 _ _ hx3, B.cl, B.np, (by show 1 < 1000; decide), ?_⟩
        have Dx : D ≠ x := fun e => by
          rw [e, hx3] at nD
          cases nD
        have bf : But x H3 (upd H5 x (.ins C dx (putF "places" (.ref D) [("lines", .ref t)]))) := (But.of s5).trans But.upd
        refine q _ (bx.trans bf) ⟨dx, t, ys, D, upd_same, bf _ _ tx ht3, Paired.mapP hy3 fun v r z => ?_, ?_⟩
        · obtain ⟨a, e, ha⟩ := z
          exact ⟨a, e, bf _ _ (fun e => by rw [e, hx3] at ha; cases ha) ha⟩
        · rw [upd_ne Dx]
          exact d5
    obtain ⟨t, h1, h2⟩ := key
    exact ⟨t, h1.nox, h2⟩
end
end LR
set_option Elab.async false
set_option linter.all false
set_option maxRecDepth 100000
set_option maxHeartbeats 4000000
namespace LR
open PySem L2
open PySem.W (Frag nsIn findIn kitOne)
structure TabD where
  (C fi fo fr ff fl fc fe fp po pr pf fC fR fI fN : Addr)
  mc : Value
  (di dO dr df dl dc de dp dC dR dI dN : FuncData)
structure Tab (K : Frag) (mg : Str → Option Value) (D : TabD) : Prop where
  Z : Prog K mg D.fC D.fR D.fI D.fN D.dC D.dR D.dI D.dN
  c : TabC K mg D.C
  make : Mk K D.C D.fi
  zi : Fun K "__init__" "Table.__init__" (item sTab 0) D.fi D.di
  zo : Fun K "of" "Table.of" (item sTab 1) D.fo D.dO
  bo : Binds K D.dO ["rows"] []
  bk : KBinds K D.dO ["rows"] ["rows"] (fun us ws => us ++ ws) (fun vs zs => vs ++ zs)
  cr : ClX.CRead K D.C D.mc
  sm : SMet K D.C D.mc "of" D.po D.fo
  zr : Fun K "rows" "Table.rows" (item sTab 2) D.fr D.dr
  br : Binds K D.dr ["self"] []
  pr : PropOf K D.C "rows" D.pr D.fr
  zf : Fun K "feeds" "Table.feeds" (item sTab 3) D.ff D.df
  bf : Binds K D.df ["self"] []
  pf : PropOf K D.C "feeds" D.pf D.ff
  zl : Fun K "__len__" "Table.__len__" (item sTab 11) D.fl D.dl
  bl : Binds K D.dl ["self"] []
  sl : Spec1 K D.C "__len__" D.fl
  nb : findIn K (.ref D.C) "__bool__" = some none
  zc : Fun K "__contains__" "Table.__contains__" (item sTab 13) D.fc D.dc
  bc : Binds K D.dc ["self", "value"] []
  sc : Spec1 K D.C "__contains__" D.fc
  ze : Fun K "__eq__" "Table.__eq__" (item sTab 14) D.fe D.de
  be : Binds K D.de ["self", "other"] []
  se : Spec1 K D.C "__eq__" D.fe
  ne : findIn K (.ref D.C) "__ne__" = some (some (.builtin "object.__ne__"))
  zp : Fun K "__repr__" "Table.__repr__" (item sTab 15) D.fp D.dp
  bp : Binds K D.dp ["self"] []
  sp : Spec1 K D.C "__repr__" D.fp
  kit : kitOne K (.ref D.C) (.ref D.C) = some true
  ha : findIn K (.ref D.C) "__class__" = some (some (.builtin "object.__class__"))
  hn : PySem.W.specialIn K (.builtin "object.__class__") "__get__" = some (some (.builtin "getset_descriptor.__get__"))
  htk : PySem.W.takesIn K (.builtin "object.__class__") = some true
  hm : PySem.W.mroIn K D.C (.type "object") = some true
  nfC : PySem.W.notFirst K D.C (.ref D.C) = true
  nfT : PySem.W.notFirst K D.C (.type "tuple") = true
  nfI : PySem.W.notFirst K D.C (.type "int") = true
  ktT : kitOne K (.type "tuple") (.ref D.C) = some false
  ktI : kitOne K (.type "int") (.ref D.C) = some false
theorem Tab.ty {K : Frag} {mg : Str → Option Value} {D : TabD} (B : Tab K mg D) {H : Hp} {a : Addr} {rows : List RowD} (h : TabAt D.C H a rows) : TyX K H (.ref a) (.ref D.C) := by
  obtain ⟨dx, la, ls, pa, h1, _⟩ := h
  exact .base (.ins h1 B.c.cl B.ha B.hn B.htk B.hm)
section
variable {P : Program} {w : World} {K : Frag} {mg : Str → Option Value} {base : Heap} {D : TabD}
/-- a table made of its rows -/
theorem make_tab {H1 : Hp} {vs : List V} {rows : List RowD} {Q : VK} {E : XK} (hR : Rws H1 vs rows) (hG : Good rows) (q : ∀ x H2, Same H1 H2 → H1 x = none → TabAt D.C H2 x rows → Q (.ref x) H2) :
    ∀ x dx, H1 x = none → H1 dx = none → dx ≠ x → spInit K D.C (.ref x :: vs) (upd (upd H1 dx (.own x)) x (.ins D.C dx [])) (fun v H2 => v = .non ∧ Q (.ref x) H2) E := by
  intro x dx nx nd ne
  have s1 : Same H1 (upd H1 dx (.own x)) := same_new nd
  have nx1 : upd H1 dx (.own x) x = none := by
    rw [upd_ne (Ne.symm ne)]
    exact nx
  have s2 : Same (upd H1 dx (.own x)) (upd (upd H1 dx (.own x)) x (.ins D.C dx [])) := same_new nx1
  refine ⟨[.ref x], vs, rfl, rfl, ?_, fun p np => ⟨x, p, dx, vs, rows, rfl, ?_, upd_same, (hR.mono (s1.trans s2)).mono (same_new np), hG, fun H' b t => ⟨rfl, q x H' (fun c o e => ?_) nx t⟩⟩⟩
  · rw [Paired.length hR]
    have := hG.ln
    exact sm100 (by omega)
  · exact same_new np _ _ upd_same
  · exact b _ _ (ne_of_none e nx) (same_new np _ _ (s2 _ _ (s1 _ _ e)))
abbrev sOf : Stmt := item sTab 1
theorem scOf : FnScope ["rows"] ["rows"] (defScope sOf) := ⟨rfl, rfl, rfl, by decide +kernel, rfl, by decide +kernel, by decide +kernel⟩
def spOf (K : Frag) (C : Addr) : Sp := fun vs H Q _ => ∃ a xs rows, vs = [.ref a] ∧ SqT K H a xs ∧ Rws H xs rows ∧ Good rows ∧ ∀ x H', Same H H' → H x = none → TabAt C H' x rows → Q (.ref x) H'
theorem ok_of {k : Nat} (B : Tab K mg D) : FnOk P w K mg base CX0 (k + 6) D.fo D.dO ["rows"] (spOf K D.C) := by
  have GI : FnR P w K mg base CX0 (k + 4) D.fi (spInit K D.C) := ok_init B.zi B.Z B.c
  refine B.zo.ok scOf (fun vs H Q E h => ?_) (fun cdv A outer s H vs Q E hr h => ?_)
  · obtain ⟨a, xs, rows, rfl, _⟩ := h
    rfl
  · obtain ⟨a, xs, rows, rfl, hs, hR, hG, q⟩ := h
    refine ⟨_, pss_cons (ps_if (pt_not (pt_val (pe_callB call_isi (by rfl) B.Z.T.isi (by decide +kernel) (pa_cons (pv 0) (pa_cons (pe_bltn (v := .ty "tuple") rfl B.Z.T.tup (by decide +kernel) rfl) pa_nil))))) pss_dead pss_nil)
      (pss_one (ps_ret (pe_makeS B.make GI hr rfl B.c.g pass0 (pv 0)))), ?_⟩
    exact ⟨_, rfl, .ref a, .ty "tuple", _, _, true, rfl, .ty _, tyT hs, kit_ty (by decide +kernel), true, rfl, iteF ⟨_, rfl, a, xs, rfl, .inl hs, make_tab hR hG q⟩⟩
abbrev sRows : Stmt := item sTab 2
theorem scRows : FnScope ["self"] ["self"] (defScope sRows) := ⟨rfl, rfl, rfl, by decide +kernel, rfl, by decide +kernel, by decide +kernel⟩
def spRows (C : Addr) : Sp := fun vs H Q _ => ∃ a rows, vs = [.ref a] ∧ TabAt C H a rows ∧ ∀ la ls, H la = some (.tup ls) → Rws H ls (srt rows) → Q (.ref la) H
theorem ok_rows {k : Nat} (B : Tab K mg D) : FnOk P w K mg base CX0 (k + 1) D.fr D.dr ["self"] (spRows D.C) := by
  refine B.zr.ok scRows (fun vs H Q E h => ?_) (fun cdv A outer s H vs Q E hr h => ?_)
  · obtain ⟨a, rows, rfl, _⟩ := h
    rfl
  · obtain ⟨a, rows, rfl, ⟨dx, la, ls, pa, h1, h2, h3, h4⟩, q⟩ := h
    exact ⟨_, pss_one (ps_ret (pe_fld (pv 0) rfl)), _, rfl, a, _, dx, _, .ref la, rfl, h1, B.c.cl, B.c.nl, rfl, q la ls h2 h3⟩
abbrev sLen : Stmt := item sTab 11
theorem scLen : FnScope ["self"] ["self"] (defScope sLen) := ⟨rfl, rfl, rfl, by decide +kernel, rfl, by decide +kernel, by decide +kernel⟩
def spLen (C : Addr) : Sp := fun vs H Q _ => ∃ a rows, vs = [.ref a] ∧ TabAt C H a rows ∧ Q (.int (rows.length : Nat)) H
theorem ok_len {k : Nat} (B : Tab K mg D) : FnOk P w K mg base CX0 (k + 1) D.fl D.dl ["self"] (spLen D.C) := by
  refine B.zl.ok scLen (fun vs H Q E h => ?_) (fun cdv A outer s H vs Q E hr h => ?_)
  · obtain ⟨a, rows, rfl, _⟩ := h
    rfl
  · obtain ⟨a, rows, rfl, ⟨dx, la, ls, pa, h1, h2, h3, h4⟩, q⟩ := h
    refine ⟨_, pss_one (ps_ret (pe_callB call_len_seq (by rfl) B.Z.T.len (by decide +kernel) (pa_cons (pe_fld (pv 0) rfl) pa_nil))), _, rfl, a, _, dx, _, .ref la, rfl, h1, B.c.cl, B.c.nl, rfl, la, ls, rfl, .inr (sqT_of h2), ?_⟩
    rw [Paired.length h3, srt_len]
    exact q
abbrev sHas : Stmt := item sTab 13
theorem scHas : FnScope ["self", "value"] ["self", "value"] (defScope sHas) := ⟨rfl, rfl, rfl, by decide +kernel, rfl, by decide +kernel, by decide +kernel⟩
def spHas (K : Frag) (C : Addr) : Sp := fun vs H Q _ => ∃ a rows v, vs = [.ref a, v] ∧ TabAt C H a rows ∧ Good rows ∧ ((KRow K H v false ∧ ∀ H', Same H H' → Q (.bl false) H') ∨ ∃ r, RowAt H v r ∧ nameS r.1 = true ∧ ∀ H', Same H H' → Q (.bl (decide (r ∈ rows))) H')
theorem ok_has {k : Nat} (B : Tab K mg D) : FnOk P w K mg base CX0 (k + 3) D.fc D.dc ["self", "value"] (spHas K D.C) := by
  have GR : FnOk P w K mg base CX0 (k + 2) D.fR D.dR ["value"] (spRow K) := ok_row B.Z.zR.F B.Z.T B.Z.N B.Z.zI B.Z.zN
  refine B.zc.ok scHas (fun vs H Q E h => ?_) (fun cdv A outer s H vs Q E hr h => ?_)
  · obtain ⟨a, rows, v, rfl, _⟩ := h
    rfl
  · obtain ⟨a, rows, v, rfl, hT, hG, q⟩ := h
    refine ⟨_, pss_one (ps_ret (pe_and (pe_call GR hr rfl B.Z.zR.g B.Z.zR.F.kp B.Z.zR.b .nil pass0 (pa_cons (pv 1) pa_nil)) (pe_one (pe_cmpR (op_inTD (hu65 hr)) (pv 1) (pe_fld (pv 0) rfl) rfl)))), ?_⟩
    rcases q with ⟨kr, q⟩ | ⟨r, ra, nm, q⟩
    · exact ⟨_, rfl, v, false, rfl, kr, fun H1 s1 => ⟨false, rfl, iteF (q _ s1)⟩⟩
    · refine ⟨_, rfl, v, true, rfl, KRow.of ra nm, fun H1 s1 => ⟨true, rfl, iteT ?_⟩⟩
      obtain ⟨dx, la, ls, pa, h1, h2, h3, h4⟩ := hT.mono s1
      refine ⟨_, rfl, _, rfl, a, _, dx, _, .ref la, rfl, h1, B.c.cl, B.c.nl, rfl, enc r, (srt rows).map enc, (ra.mono s1).dp, .tup (sqT_of h2) h3.dp, shaped_enc nm, shaped_tup (srt_names hG.nm), ?_⟩
      rw [any_enc, show decide (r ∈ srt rows) = decide (r ∈ rows) from decide_eq_decide.mpr mem_srt, Bool.bne_false]
      exact q _ s1
abbrev sEq : Stmt := item sTab 14
theorem scEq : FnScope ["self", "other"] ["self", "other"] (defScope sEq) := ⟨rfl, rfl, rfl, by decide +kernel, rfl, by decide +kernel, by decide +kernel⟩
def spEq (K : Frag) (C : Addr) : Sp := fun vs H Q _ => ∃ a rows y, vs = [.ref a, y] ∧ TabAt C H a rows ∧ Good rows ∧ ((∃ t, TyX K H y t ∧ kitOne K t (.ref C) = some false ∧ Q (.bl false) H) ∨ ∃ b rows2, y = .ref b ∧ TabAt C H b rows2 ∧ Good rows2 ∧ Q (.bl (decide (srt rows = srt rows2))) H)
theorem ok_eq {k : Nat} (B : Tab K mg D) : FnOk P w K mg base CX0 (k + 1) D.fe D.de ["self", "other"] (spEq K D.C) := by
  refine B.ze.ok scEq (fun vs H Q E h => ?_) (fun cdv A outer s H vs Q E hr h => ?_)
  · obtain ⟨a, rows, v, rfl, _⟩ := h
    rfl
  · obtain ⟨a, rows, y, rfl, hT, hG, q⟩ := h
    refine ⟨_, pss_one (ps_ret (pe_and (pe_callB call_isi (by rfl) B.Z.T.isi (by decide +kernel) (pa_cons (pv 1) (pa_cons (pe_glob (v := .ref D.C) rfl B.c.g rfl) pa_nil))) (pe_one (pe_cmpR (op_eqD (hu64 hr)) (pe_fld (pv 0) rfl) (pe_fld (pv 1) rfl) (nomark _))))), ?_⟩
    rcases q with ⟨t, ty, kt, q⟩ | ⟨b, rows2, rfl, hT2, hG2, q⟩
    · exact ⟨_, rfl, y, .ref D.C, _, _, false, rfl, .own _, ty, kt, false, rfl, iteF q⟩
    · refine ⟨_, rfl, .ref b, .ref D.C, _, _, true, rfl, .own _, B.ty hT2, B.kit, true, rfl, iteT ?_⟩
      obtain ⟨dx, la, ls, pa, h1, h2, h3, h4⟩ := hT
      obtain ⟨ex, lb, ms, pb, g1, g2, g3, g4⟩ := hT2
      refine ⟨_, rfl, a, _, dx, _, .ref la, rfl, h1, B.c.cl, B.c.nl, rfl, _, rfl, b, _, ex, _, .ref lb, rfl, g1, B.c.cl, B.c.nl, rfl, .tuple ((srt rows).map enc), .tuple ((srt rows2).map enc), .tup (sqT_of h2) h3.dp, .tup (sqT_of g2) g3.dp, shaped_tup (srt_names hG.nm), shaped_tup (srt_names hG2.nm), ?_⟩
      rw [PyData.eqv, eqvAll_enc]
      exact q
end
end LR
set_option Elab.async false
set_option linter.all false
set_option maxRecDepth 100000
set_option maxHeartbeats 4000000
namespace LR
open PySem L2
open PySem.W (Frag nsIn findIn kitOne)
section
variable {P : Program} {w : World} {K : Frag} {mg : Str → Option Value} {base : Heap} {D : TabD}
/-- the feeds of rows, ascending -/
structure FeedsOf (ys : List Str) (rows : List RowD) : Prop where
  nd : ys.Nodup
  mem : ∀ z, z ∈ ys ↔ z ∈ rows.map (·.1)
  so : PyProof.Rows.sortedS ys = true
def kv1 (ks : List Str) : List (Key × V) := ks.map fun z => (.inr z, .bl true)
theorem kv1_keys (ks : List Str) : (kv1 ks).map (·.1) = ks.map Sum.inr := by
  unfold kv1
  rw [List.map_map]
  rfl
theorem inr_mem {ks : List Str} {z : Str} : (Sum.inr z : Key) ∈ (kv1 ks).map (·.1) ↔ z ∈ ks := by
  rw [kv1_keys, List.mem_map]
  constructor
  · rintro ⟨y, hy, e⟩
    cases e
    exact hy
  · exact fun h => ⟨z, h, rfl⟩
theorem put_kv1 (ks : List Str) (z : Str) : putK (kv1 ks) (.inr z) (.bl true) = kv1 (if z ∈ ks then ks else ks ++ [z]) := by
  by_cases h : z ∈ ks
  · rw [if_pos h]
    unfold putK
    split
    · unfold kv1
      rw [List.map_map]
      refine List.map_congr_left fun y hy => ?_
      show (if (Sum.inr y : Key) = .inr z then _ else _) = _
      split <;> rfl
    · rename_i c
      refine absurd ?_ c
      rw [List.any_eq_true]
      exact ⟨(.inr z, .bl true), List.mem_map.mpr ⟨z, h, rfl⟩, decide_eq_true rfl⟩
  · rw [if_neg h, put_new fun c => h (inr_mem.mp c)]
    unfold kv1
    rw [List.map_append]
    rfl
abbrev sFeeds : Stmt := item sTab 3
theorem scFeeds : FnScope ["self", "row"] ["self"] (defScope sFeeds) := ⟨rfl, rfl, rfl, by decide +kernel, rfl, by decide +kernel, by decide +kernel⟩
def spFeeds (C : Addr) : Sp := fun vs H Q _ => ∃ a rows, vs = [.ref a] ∧ TabAt C H a rows ∧ rows.length ≤ 60 ∧ ∀ H' t ys, Same H H' → H t = none → H' t = some (.tup (ys.map V.str)) → FeedsOf ys rows → Q (.ref t) H'
theorem ok_feeds {k : Nat} (B : Tab K mg D) : FnOk P w K mg base CX0 (k + 1) D.ff D.df ["self"] (spFeeds D.C) := by
  refine B.zf.ok scFeeds (fun vs H Q E h => ?_) (fun cdv A outer s H vs Q E hr h => ?_)
  · obtain ⟨a, rows, rfl, _⟩ := h
    rfl
  · obtain ⟨a, rows, rfl, ⟨dx, la, ls, pa, h1, h2, h3, h4⟩, hl, q⟩ := h
    refine ⟨_, pss_one (ps_ret (pe_tupleOf (by rfl) B.Z.T.tup (pe_callB (call_sortedD rfl) (by rfl) B.Z.T.srt (by decide +kernel) (pa_cons
      (pe_dc (own := [("row", 1)]) (g := gName 1) (tt := tYes) (tk := tOp (rIxT K) (tVar 1) (tC (.int 0))) (tv := tC (.bl true)) rfl scFeeds.nd (pi_tup (pe_fld (pv 0) rfl)) (blkOk_by (N := ["self", "row"]) (sc := defScope sFeeds) (by decide +kernel))
        (fun _ _ _ _ _ => pg_name (i := 1) scFeeds.nd rfl (.inl rfl)) (fun _ _ _ _ _ => pts_nil) (fun _ _ _ _ _ => pe_ix (ixTK (K := K)) (pv 1) pe_int (fun _ _ => rfl)) (fun _ _ _ _ _ => pe_bl)) pa_nil)))), ?_⟩
    refine ⟨_, rfl, a, _, dx, _, .ref la, rfl, h1, B.c.cl, B.c.nl, rfl, la, rfl, ⟨ls, sqT_of h2⟩, fun E nE => ?_⟩
    have len : ls.length = (srt rows).length := Paired.length h3
    refine dc_tup (K := K) (a := la) (xs := ls) (fun i H5 => Same H H5 ∧ ∃ ks : List Str, H5 E = some (.dK (kv1 ks)) ∧ ks.Nodup ∧ (∀ z, z ∈ ks ↔ z ∈ ((srt rows).take i).map (·.1)) ∧ ks.length ≤ i) ⟨same_new nE, [], upd_same, List.nodup_nil, fun z => Iff.rfl, Nat.le_refl _⟩
      (fun i H5 _ h => sqT_of (h.1 _ _ h2)) ?_ ?_
    · rintro i y H5 hi ⟨s5, ks, d5, nd, mem, lk⟩
      obtain ⟨r, er, ra⟩ := nthP h3 hi
      obtain ⟨b, rfl, hb⟩ := ra.mono s5
      have ilt : i < (srt rows).length := (List.getElem?_eq_some_iff.mp er).1
      rw [srt_len] at ilt
      refine ⟨rfl, yesIf ?_⟩
      refine ⟨_, rfl, b, _, 0, .str r.1, rfl, rfl, sqT_of hb, atI_nat (j := 0) rfl, kv1 ks, .inr r.1, rfl, d5, ?_, fun b o e => ?_, if r.1 ∈ ks then ks else ks ++ [r.1], ?_, ?_, ?_, ?_⟩
      · unfold kv1
        rw [List.length_map, sizeLine_eq]
        omega
      · rw [upd_ne (ne_of_none e nE)]
        exact s5 _ _ e
      · rw [upd_same, put_kv1]
      · split
        · exact nd
        · rename_i c
          exact List.nodup_append.mpr ⟨nd, List.nodup_cons.mpr ⟨List.not_mem_nil, List.nodup_nil⟩, fun x hx y hy e => c (by rw [List.mem_singleton.mp hy] at e; exact e ▸ hx)⟩
      · intro z
        rw [take_map_succ er, List.mem_append, List.mem_singleton, ← mem z]
        split
        · rename_i c
          exact ⟨.inl, fun h => h.elim id fun e => e ▸ c⟩
        · rw [List.mem_append, List.mem_singleton]
      · split
        · omega
        · rw [List.length_append]
          exact Nat.succ_le_succ lk
    · rintro H5 ⟨s5, ks, d5, nd, mem, lk⟩
      rw [len, List.take_length] at mem
      rw [len, srt_len] at lk
      refine ⟨E, kv1 ks, ks, rfl, .inl d5, kv1_keys ks, by omega, fun ys p py so np => .inl ⟨p, ys.map V.str, rfl, SqL.of upd_same, fun t nt => ?_⟩⟩
      have s6 : Same H5 (upd H5 p (.lst (ys.map V.str))) := same_new np
      have s7 : Same (upd H5 p (.lst (ys.map V.str))) (upd (upd H5 p (.lst (ys.map V.str))) t (.tup (ys.map V.str))) := same_new nt
      have all := (s5.trans s6).trans s7
      refine q _ t ys all ((s5.trans s6).free nt) upd_same ⟨py.nodup_iff.mpr nd, fun z => ?_, so⟩
      rw [py.mem_iff, mem z]
      exact ((srt_perm rows).map (·.1)).mem_iff
abbrev sRep : Stmt := item sTab 15
theorem scRep : FnScope ["self"] ["self"] (defScope sRep) := ⟨rfl, rfl, rfl, by decide +kernel, rfl, by decide +kernel, by decide +kernel⟩
def tabText (n : Nat) : Str := ("Table(" : Str) ++ (toString (n : Int) : String) ++ (" rows)" : Str)
theorem tx60 : ∀ n : Nat, n < 61 → (Str.empty ++ ("Table(" : Str)).length ≤ 100 ∧ (Str.empty ++ ("Table(" : Str) ++ Str.ofString (toString (n : Int))).length ≤ 100 ∧ (Str.empty ++ ("Table(" : Str) ++ Str.ofString (toString (n : Int)) ++ (" rows)" : Str)).length ≤ 100 ∧ (n : Int).natAbs.log2 < 1920 ∧
    Str.empty ++ ("Table(" : Str) ++ Str.ofString (toString (n : Int)) ++ (" rows)" : Str) = tabText n := by decide +kernel
def spRep (C : Addr) : Sp := fun vs H Q _ => ∃ a rows, vs = [.ref a] ∧ TabAt C H a rows ∧ rows.length ≤ 60 ∧ Q (.str (tabText rows.length)) H
theorem ok_rep {k : Nat} (B : Tab K mg D) : FnOk P w K mg base CX0 (k + 1) D.fp D.dp ["self"] (spRep D.C) := by
  refine B.zp.ok scRep (fun vs H Q E h => ?_) (fun cdv A outer s H vs Q E hr h => ?_)
  · obtain ⟨a, rows, rfl, _⟩ := h
    rfl
  · obtain ⟨a, rows, rfl, ⟨dx, la, ls, pa, h1, h2, h3, h4⟩, hl, q⟩ := h
    refine ⟨_, pss_one (ps_ret (pe_joined (.cons pe_str (.cons (pe_fmt (pe_callB call_len_seq (by rfl) B.Z.T.len (by decide +kernel) (pa_cons (pe_fld (pv 0) rfl) pa_nil))) (.cons pe_str .nil))))), ?_⟩
    have el : ls.length = rows.length := (Paired.length h3).trans (srt_len rows)
    obtain ⟨l1, l2, l3, l4, e⟩ := tx60 rows.length (by omega)
    refine ⟨_, rfl, sm100 l1, ⟨_, rfl, a, _, dx, _, .ref la, rfl, h1, B.c.cl, B.c.nl, rfl, la, ls, rfl, .inr (sqT_of h2), .inr ⟨_, rfl, ?_, _, rfl, ?_, _, rfl, ?_, ?_⟩⟩⟩
    · rw [el]
      exact l4
    · rw [el]
      exact sm100 l2
    · rw [el]
      exact sm100 l3
    · rw [el]
      show Q (.str (Str.empty ++ ("Table(" : Str) ++ Str.ofString (toString (rows.length : Int)) ++ (" rows)" : Str))) H
      rw [e]
      exact q
end
end LR
set_option Elab.async false
set_option linter.all false
set_option maxRecDepth 100000
set_option maxHeartbeats 4000000
namespace LR
open PySem L2
open PySem.W (Frag nsIn findIn kitOne)
/-- a source of picks: its digits, its mixed number, how many picks there were (at most n) -/
def Src (n : Nat) (H : Hp) (p : Addr) : Prop := ∃ a b c : Int, H p = some (.lst [.int a, .int b, .int c]) ∧ 0 ≤ a ∧ 0 ≤ b ∧ b < 2147483423 ∧ 0 ≤ c ∧ c ≤ n
theorem Src.le {n m : Nat} {H : Hp} {p : Addr} (h : Src n H p) (e : n ≤ m) : Src m H p := by
  obtain ⟨a, b, c, h1, h2, h3, h4, h5, h6⟩ := h
  exact ⟨a, b, c, h1, h2, h3, h4, h5, by omega⟩
theorem Src.mono {n : Nat} {H H' : Hp} {p : Addr} (h : Src n H p) (s : Same H H') : Src n H' p := by
  obtain ⟨a, b, c, h1, h2⟩ := h
  exact ⟨a, b, c, s _ _ h1, h2⟩
theorem Src.ne {n : Nat} {H : Hp} {p q : Addr} {o : HO} (h : Src n H p) (e : H q = some o) (d : ∀ xs, o ≠ .lst xs) : q ≠ p := fun z => by
  obtain ⟨a, b, c, h1, _⟩ := h
  rw [z, h1] at e
  exact d _ (Option.some.inj e).symm
theorem But.sqL {K : Frag} {p : Addr} {H H' : Hp} {a : Addr} {xs : List V} (e : But p H H') (n : a ≠ p) (h : SqL K H a xs) : SqL K H' a xs := by
  rcases h with (h | ⟨o, h⟩) | h
  · exact .inl (.inl (e _ _ n h))
  · exact .inl (.inr ⟨o, e _ _ n h⟩)
  · exact .inr h
theorem RowAt.but {n : Nat} {p : Addr} {H H' : Hp} {v : V} {r : RowD} (h : RowAt H v r) (b : But p H H') (s : Src n H p) : RowAt H' v r := by
  obtain ⟨a, e, h⟩ := h
  exact ⟨a, e, b _ _ (s.ne h fun _ z => nomatch z) h⟩
theorem Rws.but {n : Nat} {p : Addr} {H H' : Hp} {vs : List V} {rows : List RowD} (h : Rws H vs rows) (b : But p H H') (s : Src n H p) : Rws H' vs rows := Paired.mapP h fun _ _ z => z.but b s
structure Bl2 (mg : Str → Option Value) : Prop where
  abS : mg "abs" = none
  ran : mg "range" = none
  lst : mg "list" = none
  set : mg "set" = none
  rep : mg "repr" = none
  max : mg "max" = none
  min : mg "min" = none
section
variable {P : Program} {w : World} {K : Frag} {mg : Str → Option Value} {base : Heap}
abbrev sNum : Stmt := top 15
theorem scNum : FnScope ["_law_script", "_law_k", "_law_made", "_law_cell"] ["_law_script", "_law_k"] (defScope sNum) := ⟨rfl, rfl, rfl, by decide +kernel, rfl, by decide +kernel, by decide +kernel⟩
def spNum (K : Frag) : Sp := fun vs H Q _ => ∃ (a : Addr) (ns : List Int) (k : Nat), vs = [.ref a, .int k] ∧ SqL K H a (ns.map V.int) ∧ ns.length ≤ 63 ∧ k < 100 ∧ ∀ v H', Same H H' → Q (.int v) H'
theorem ok_num {f : Addr} {fd : FuncData} {k : Nat} (F : Fun K "_law_number" "_law_number" sNum f fd) (T : Bl mg) : FnOk P w K mg base CX0 (k + 1) f fd ["_law_script", "_law_k"] (spNum K) := by
  refine F.ok scNum (fun vs H Q E h => ?_) (fun cdv A outer s H vs Q E hr h => ?_)
  · obtain ⟨a, ns, k, rfl, _⟩ := h
    rfl
  · obtain ⟨a, ns, j, rfl, hS, hn, hk, q⟩ := h
    refine ⟨_, pss_cons (ps_if (pt_cmpR op_lt (pv 1) (pe_callB call_len (by rfl) T.len (by decide +kernel) (pa_cons (pv 0) pa_nil)) (nomark _)) (pss_one (ps_ret (pe_ix ix_list (pv 0) (pv 1) (fun _ _ => rfl)))) pss_nil)
      (pss_cons (ps_set (i := 2) scNum.nd rfl (.inl rfl) (pe_op op_mul (pe_op op_mul pe_int (pe_op op_add (pv 1) pe_int)) (pe_op op_add (pv 1) pe_int)))
      (pss_cons (ps_for PassesOwn.never rfl (pi_list (pe_slice sl_list (pv 0) po_none (po_some pe_int))) (pg_name (i := 3) scNum.nd rfl (.inl rfl))
        (pss_one (ps_set (i := 2) scNum.nd rfl (.inl rfl) (pe_op op_mod (pe_callTy call_int1 (by rfl) T.int (by decide +kernel) (pa_cons (pe_op op_add (pe_op op_add (pe_op op_mul (pv 2) pe_int) (pv 3)) (pv 1)) pa_nil)) pe_int))))
      (pss_one (ps_ret (pv 2))))), ?_⟩
    refine ⟨_, rfl, _, rfl, .ref a, ns.length, rfl, .inl ⟨_, hS, by rw [List.length_map]⟩, _, _, rfl, rfl, _, rfl, ?_⟩
    by_cases lt : (j : Int) < (ns.length : Nat)
    · rw [decide_eq_true lt]
      have lt' : j < ns.length := by omega
      refine iteT ⟨_, rfl, _, rfl, a, _, _, .int ns[j], rfl, rfl, hS, atI_nat ?_, q _ _ (.refl _)⟩
      rw [List.getElem?_map, List.getElem?_eq_getElem lt']
      rfl
    · rw [decide_eq_false lt]
      refine iteF ⟨_, rfl, _, _, rfl, rfl, _, _, rfl, rfl, ?_, _, rfl, _, _, rfl, rfl, _, _, rfl, rfl, ?_, ?_⟩
      · exact .inl ⟨by decide, by decide⟩
      · exact .inr ⟨by omega, by omega⟩
      refine ⟨_, rfl, 5, rfl, a, _, rfl, hS, fun c nc => ⟨c, rfl, ⟨_, SqL.of upd_same⟩, ?_⟩⟩
      have s3 := same_new (o := .lst (cutV (ns.map V.int) none (some 5))) nc
      have isInt : ∀ x ∈ cutV (ns.map V.int) none (some 5), ∃ z, x = V.int z := fun x hx => by
        have h1 : x ∈ ns.map V.int := List.mem_of_mem_drop (List.mem_of_mem_take hx)
        obtain ⟨z, _, e⟩ := List.mem_map.mp h1
        exact ⟨z, e.symm⟩
      refine for_it (walk_list (K := K) (a := c) (xs := cutV (ns.map V.int) none (some 5))) (fun i σ H2 => ∃ (m : Int) (x3 : Option V), σ = [some (.ref a), some (.int j), some (.int m), x3] ∧ H2 = upd H c (.lst (cutV (ns.map V.int) none (some 5))))
        ⟨_, _, rfl, rfl⟩ (fun i σ H2 _ ⟨_, _, _, e⟩ => e ▸ SqL.of upd_same) ?_ ?_
      · rintro i x σ H2 H3 hi ⟨m, x3, rfl, rfl⟩ ⟨rfl, hx⟩
        obtain ⟨z, rfl⟩ := isInt x (List.mem_of_getElem? hx)
        exact ⟨_, rfl, _, _, rfl, rfl, .inr ⟨by decide, by decide⟩, _, rfl, _, _, rfl, rfl, _, rfl, _, _, rfl, rfl, .inl ⟨_, rfl, _, _, rfl, rfl, (by show (0 : Int) < 2147483423; decide), _, _, rfl, rfl⟩⟩
      · rintro σ H2 ⟨m, x3, rfl, rfl⟩
        exact ⟨_, rfl, q _ _ s3⟩
abbrev sSrc : Stmt := top 16
theorem scSrc : FnScope ["_law_cell"] ["_law_cell"] (defScope sSrc) := ⟨rfl, rfl, rfl, by decide +kernel, rfl, by decide +kernel, by decide +kernel⟩
def spSrc : Sp := fun vs H Q _ => ∃ c : Int, vs = [.int c] ∧ ∀ p H', Same H H' → H p = none → Src 0 H' p → Q (.ref p) H'
theorem ok_src {f : Addr} {fd : FuncData} {k : Nat} (F : Fun K "_law_source" "_law_source" sSrc f fd) (T : Bl mg) (T2 : Bl2 mg) : FnOk P w K mg base CX0 (k + 1) f fd ["_law_cell"] spSrc := by
  refine F.ok scSrc (fun vs H Q E h => ?_) (fun cdv A outer s H vs Q E hr h => ?_)
  · obtain ⟨c, rfl, _⟩ := h
    rfl
  · obtain ⟨c, rfl, q⟩ := h
    refine ⟨_, pss_one (ps_ret (pe_lst (pa_cons (pe_ifExp (PW.pt (pw_or (pt_cmpR op_lt (pv 0) pe_int (nomark _)) (pw_or1 (pt_cmpR op_ge (pv 0) (pe_op op_pow pe_int pe_int) (nomark _))))) (pe_callB call_abs (by rfl) T2.abS (by decide +kernel) (pa_cons (pv 0) pa_nil)) pe_int)
      (pa_cons (pe_op op_mod (pe_callTy call_int1 (by rfl) T.int (by decide +kernel) (pa_cons (pv 0) pa_nil)) pe_int) (pa_cons pe_int pa_nil))))), ?_⟩
    have fin : ∀ a : Int, 0 ≤ a → ∀ p, H p = none → Q (.ref p) (upd H p (.lst [.int a, .int (c % 2147483423), .int 0])) := fun a ha p np =>
      q p _ (same_new np) np ⟨a, _, 0, upd_same, ha, Int.emod_nonneg _ (by decide), Int.emod_lt_of_pos _ (by decide), Int.le_refl _, Int.le_refl _⟩
    have rest : ∀ a : Int, 0 ≤ a → tCons (tOp (rI (fun _ j => 0 < j) fun i j => V.int (i % j)) (tCB (fun xs H Q => (∃ i, xs = [V.int i] ∧ Q (V.int i) H) ∨ ∃ k, xs = [V.bl k] ∧ Q (V.int (if k = true then 1 else 0)) H) (tCons (tVar 0) tNil)) (tC (.int 2147483423))) (tCons (tC (.int 0)) tNil) (start ["_law_cell"] [.int c]) H
        fun xs H1 => (V.int a :: xs).length ≤ sizeLine ∧ ∀ p, H1 p = none → Q (.ref p) (upd H1 p (.lst (V.int a :: xs))) := fun a ha =>
      ⟨_, rfl, .inl ⟨c, rfl, _, _, rfl, rfl, (by show (0 : Int) < 2147483423; decide), sm100 (Nat.le_of_ble_eq_true rfl), fin a ha⟩⟩
    have ab : 0 ≤ (if c < 0 then -c else c) := by
      split <;> omega
    refine ⟨_, rfl, _, _, rfl, rfl, _, rfl, ?_⟩
    by_cases h : c < 0
    · rw [decide_eq_true h]
      exact iteT (iteT ⟨_, rfl, c, rfl, rest _ ab⟩)
    · rw [decide_eq_false h]
      refine iteF ⟨_, rfl, 10, 18, rfl, rfl, ⟨by decide, by decide, by decide⟩, _, _, rfl, rfl, _, rfl, ?_⟩
      by_cases g : (10 : Int) ^ (18 : Int).toNat ≤ c
      · rw [decide_eq_true g]
        exact iteT ⟨_, rfl, c, rfl, rest _ ab⟩
      · rw [decide_eq_false g]
        exact iteF (rest 0 (Int.le_refl _))
abbrev sPick : Stmt := top 17
theorem scPick : FnScope ["_law_source_here", "_law_many", "_law_digit", "_law_turn", "_law_mixed_here"] ["_law_source_here", "_law_many"] (defScope sPick) := ⟨rfl, rfl, rfl, by decide +kernel, rfl, by decide +kernel, by decide +kernel⟩
def spPick : Sp := fun vs H Q _ => ∃ (p : Addr) (m n : Nat), vs = [.ref p, .int m] ∧ Src n H p ∧ 1 ≤ m ∧ m < 1000 ∧ n < 100000 ∧ ∀ (d : Nat) H', d < m → But p H H' → Src (n + 1) H' p → Q (.int d) H'
theorem mod_to {z : Int} {m : Nat} (hm : 1 ≤ m) : ∃ d : Nat, d < m ∧ z % (m : Int) = (d : Int) := by
  have h1 : 0 ≤ z % (m : Int) := Int.emod_nonneg _ (by omega)
  have h2 : z % (m : Int) < (m : Int) := Int.emod_lt_of_pos _ (by omega)
  exact ⟨(z % (m : Int)).toNat, by omega, by omega⟩
theorem ok_pick {f : Addr} {fd : FuncData} {k : Nat} (F : Fun K "_law_pick" "_law_pick" sPick f fd) (T : Bl mg) : FnOk P w K mg base CX0 (k + 1) f fd ["_law_source_here", "_law_many"] spPick := by
  refine F.ok scPick (fun vs H Q E h => ?_) (fun cdv A outer s H vs Q E hr h => ?_)
  · obtain ⟨p, m, n, rfl, _⟩ := h
    rfl
  · obtain ⟨p, m, n, rfl, ⟨a, b, c, hp, a0, b0, b1, c0, c1⟩, m1, m2, n1, q⟩ := h
    refine ⟨_, pss_cons (ps_asg (pe_op op_add (pe_ix ix_list (pv 0) pe_int (fun _ _ => rfl)) pe_int) (pg_sub (pv 0) pe_int set_list))
      (pss_cons (ps_if (pt_cmpR op_gt (pe_ix ix_list (pv 0) pe_int (fun _ _ => rfl)) pe_int (nomark _))
        (pss_cons (ps_set (i := 2) scPick.nd rfl (.inl rfl) (pe_op op_mod (pe_callTy call_int1 (by rfl) T.int (by decide +kernel) (pa_cons (pe_ix ix_list (pv 0) pe_int (fun _ _ => rfl)) pa_nil)) (pv 1)))
        (pss_cons (ps_asg (pe_op op_fdiv (pe_ix ix_list (pv 0) pe_int (fun _ _ => rfl)) (pv 1)) (pg_sub (pv 0) pe_int set_list))
        (pss_one (ps_ret (pv 2))))) pss_nil)
      (pss_cons (ps_set (i := 3) scPick.nd rfl (.inl rfl) (pe_ix ix_list (pv 0) pe_int (fun _ _ => rfl)))
      (pss_cons (ps_set (i := 4) scPick.nd rfl (.inl rfl) (pe_callTy call_int1 (by rfl) T.int (by decide +kernel) (pa_cons (pe_op op_add (pe_ix ix_list (pv 0) pe_int (fun _ _ => rfl)) (pe_op op_mul (pv 3) pe_int)) pa_nil)))
      (pss_cons (ps_asg (pe_op op_mod (pe_callTy call_int1 (by rfl) T.int (by decide +kernel) (pa_cons (pe_op op_add (pe_op op_pow (pv 4) pe_int) (pe_op op_mul pe_int (pv 3))) pa_nil)) pe_int) (pg_sub (pv 0) pe_int set_list))
      (pss_one (ps_ret (pe_op op_mod (pe_callTy call_int1 (by rfl) T.int (by decide +kernel) (pa_cons (pe_op op_fdiv (pe_ix ix_list (pv 0) pe_int (fun _ _ => rfl)) pe_int) pa_nil)) (pv 1)))))))), ?_⟩
    refine ⟨_, rfl, p, _, 2, .int c, rfl, rfl, SqL.of hp, atI_nat (j := 2) rfl, _, _, rfl, rfl, _, rfl, p, _, 2, 2, rfl, rfl, hp, rfl, ?_⟩
    have b2 : But p H (upd H p (.lst [.int a, .int b, .int (c + 1)])) := But.upd
    have h2 : upd H p (.lst [.int a, .int b, .int (c + 1)]) p = some (.lst [.int a, .int b, .int (c + 1)]) := upd_same
    refine ⟨_, rfl, p, _, 0, .int a, rfl, rfl, SqL.of h2, atI_nat (j := 0) rfl, _, _, rfl, rfl, _, rfl, ?_⟩
    by_cases ap : (0 : Int) < a
    · rw [decide_eq_true ap]
      obtain ⟨d, dm, de⟩ := mod_to (z := a) m1
      refine iteT ⟨_, rfl, p, _, 0, .int a, rfl, rfl, SqL.of h2, atI_nat (j := 0) rfl, .inl ⟨a, rfl, _, rfl, _, _, rfl, rfl, (by show (0 : Int) < (m : Nat); omega), ?_⟩⟩
      refine ⟨_, rfl, p, _, 0, .int a, rfl, rfl, SqL.of h2, atI_nat (j := 0) rfl, _, rfl, _, _, rfl, rfl, ⟨by omega, by omega⟩, _, rfl, p, _, 0, 0, rfl, rfl, h2, rfl, _, rfl, ?_⟩
      have z := q d (upd _ p (.lst [.int (a / (m : Int)), .int b, .int (c + 1)])) dm (b2.trans But.upd) ⟨_, b, c + 1, upd_same, Int.ediv_nonneg a0 (by omega), b0, b1, by omega, by omega⟩
      rw [← de] at z
      exact z
    · rw [decide_eq_false ap]
      refine iteF ⟨_, rfl, p, _, 2, .int (c + 1), rfl, rfl, SqL.of h2, atI_nat (j := 2) rfl, ?_⟩
      refine ⟨_, rfl, p, _, 1, .int b, rfl, rfl, SqL.of h2, atI_nat (j := 1) rfl, _, rfl, _, _, rfl, rfl, .inr ⟨by decide, by decide⟩, _, _, rfl, rfl, .inl ⟨_, rfl, ?_⟩⟩
      refine ⟨_, rfl, _, _, rfl, rfl, ⟨by decide, by decide, ?_⟩, _, rfl, _, _, rfl, rfl, .inl ⟨by decide, by decide⟩, _, _, rfl, rfl, .inl ⟨_, rfl, _, _, rfl, rfl, (by show (0 : Int) < 2147483423; decide), _, rfl, p, _, 1, 1, rfl, rfl, h2, rfl, ?_⟩⟩
      · omega
      obtain ⟨d, dm, de⟩ := mod_to (z := ((b + (c + 1) * 7919) ^ (3 : Int).toNat + 31 * (c + 1)) % 2147483423 / 61) m1
      refine ⟨_, rfl, p, _, 1, _, rfl, rfl, SqL.of upd_same, atI_nat (j := 1) rfl, _, _, rfl, rfl, ⟨by decide, by decide⟩, .inl ⟨_, rfl, _, rfl, _, _, rfl, rfl, (by show (0 : Int) < (m : Nat); omega), ?_⟩⟩
      have z := q d (upd _ p (.lst [.int a, .int (((b + (c + 1) * 7919) ^ (3 : Int).toNat + 31 * (c + 1)) % 2147483423), .int (c + 1)])) dm (b2.trans But.upd) ⟨a, _, c + 1, upd_same, a0, Int.emod_nonneg _ (by decide), Int.emod_lt_of_pos _ (by decide), by omega, by omega⟩
      rw [← de] at z
      exact z
end
end LR
set_option Elab.async false
set_option linter.all false
set_option maxRecDepth 100000
set_option maxHeartbeats 4000000
namespace LR
open PySem L2
/-! ### plain facts of names -/
def sg (c : Nat) : Str := ⟨#[c]⟩
theorem fold_sg : ∀ (l : List Nat) (a : Array Nat), ((l.map sg).foldl (fun acc p => acc ++ ("" : Str).cps ++ p.cps) a).toList = a.toList ++ l
  | [], a => by simp
  | c :: l, a => by
    rw [List.map_cons, List.foldl_cons, fold_sg l]
    have e : (("" : Str).cps).toList = [] := by decide
    simp [sg, e]
theorem join_sg (l : List Nat) : (Txt.join ("" : Str) (l.map sg)).cps.toList = l := by
  unfold Txt.join Builtin.Str.glued
  cases l with
  | nil => rfl
  | cons c l =>
    have z := fold_sg l #[c]
    simpa [sg] using z
theorem cps_append (x y : Str) : (x ++ y).cps.toList = x.cps.toList ++ y.cps.toList := by
  show (x.cps ++ y.cps).toList = _
  simp
theorem len_cps (x : Str) : x.length = x.cps.toList.length := (Array.length_toList (xs := x.cps)).symm
theorem lets_sgns : ∀ c ∈ lets.cps.toList, inS sgns c = true := by decide +kernel
/-- a letter, and signs behind it -/
theorem name_of {z : Str} {c : Nat} {cs : List Nat} (e : z.cps.toList = c :: cs) (hc : c ∈ lets.cps.toList) (hs : ∀ d ∈ cs, inS sgns d = true) (hl : cs.length ≤ 7) : nameS z = true := by
  have h1 : z.length = cs.length + 1 := by rw [len_cps, e]; rfl
  unfold nameS
  simp only [Bool.and_eq_true, decide_eq_true_eq]
  refine ⟨⟨⟨by omega, by omega⟩, ?_⟩, ?_⟩
  · rw [e]
    exact decide_eq_true hc
  · rw [e, List.all_cons, lets_sgns c hc, Bool.true_and]
    exact List.all_eq_true.mpr hs
theorem name_to {z : Str} (h : nameS z = true) : ∃ c cs, z.cps.toList = c :: cs ∧ c ∈ lets.cps.toList ∧ (∀ d ∈ cs, inS sgns d = true) ∧ cs.length ≤ 7 := by
  have hl := name_ok h
  unfold nameS at h
  simp only [Bool.and_eq_true, decide_eq_true_eq] at h
  obtain ⟨⟨⟨_, _⟩, h3⟩, h4⟩ := h
  cases e : z.cps.toList with
  | nil =>
    rw [e] at h3
    cases h3
  | cons c cs =>
    rw [e] at h3 h4
    refine ⟨c, cs, rfl, of_decide_eq_true h3, fun d hd => List.all_eq_true.mp h4 d (List.mem_cons_of_mem _ hd), ?_⟩
    have := len_cps z
    rw [e, List.length_cons] at this
    omega
theorem Str.ext {x y : Str} (h : x.cps.toList = y.cps.toList) : x = y := by
  obtain ⟨x⟩ := x
  obtain ⟨y⟩ := y
  congr 1
  exact Array.toList_inj.mp h
def words : List Str := ["now", "strict", "before", "after", "time", "value", "any", "at", "on", "apart"]
theorem words_names : ∀ z ∈ words, nameS z = true := by decide +kernel
end LR
set_option Elab.async false
set_option linter.all false
set_option maxRecDepth 100000
set_option maxHeartbeats 4000000
namespace LR
open PySem L2
open PySem.W (Frag nsIn findIn kitOne)
section
variable {P : Program} {w : World} {K : Frag} {mg : Str → Option Value} {base : Heap}
abbrev sOne : Stmt := top 18
theorem scOne : FnScope ["_law_source_here", "_law_things"] ["_law_source_here", "_law_things"] (defScope sOne) := ⟨rfl, rfl, rfl, by decide +kernel, rfl, by decide +kernel, by decide +kernel⟩
def spOne (K : Frag) : Sp := fun vs H Q _ => ∃ (p : Addr) (n : Nat) (y : V), vs = [.ref p, y] ∧ Src n H p ∧ n < 100000 ∧
  ((∃ t xs, y = .ref t ∧ SqL K H t xs ∧ t ≠ p ∧ 1 ≤ xs.length ∧ xs.length < 1000 ∧ ∀ x H', x ∈ xs → But p H H' → Src (n + 1) H' p → Q x H') ∨
    ∃ z : Str, y = .str z ∧ 1 ≤ z.length ∧ z.length < 1000 ∧ ∀ c H', c ∈ z.cps.toList → But p H H' → Src (n + 1) H' p → Q (.str (sg c)) H')
structure Hlp (K : Frag) (mg : Str → Option Value) (fP fO : Addr) (dP dO : FuncData) : Prop where
  T : Bl mg
  T2 : Bl2 mg
  zP : DefAt K mg "_law_pick" sPick fP dP ["_law_source_here", "_law_many"]
  zO : DefAt K mg "_law_one" sOne fO dO ["_law_source_here", "_law_things"]
variable {fP fO : Addr} {dP dO : FuncData}
theorem ok_one {k : Nat} (Z : Hlp K mg fP fO dP dO) : FnOk P w K mg base CX0 (k + 2) fO dO ["_law_source_here", "_law_things"] (spOne K) := by
  have GP : FnOk P w K mg base CX0 (k + 1) fP dP ["_law_source_here", "_law_many"] spPick := ok_pick Z.zP.F Z.T
  refine Z.zO.F.ok scOne (fun vs H Q E h => ?_) (fun cdv A outer s H vs Q E hr h => ?_)
  · obtain ⟨p, n, y, rfl, _⟩ := h
    rfl
  · obtain ⟨p, n, y, rfl, hs, hn, q⟩ := h
    refine ⟨_, pss_one (ps_ret (pe_ix ix_seq (pv 1) (pe_call GP hr rfl Z.zP.g Z.zP.F.kp Z.zP.b .nil pass0 (pa_cons (pv 0) (pa_cons (pe_callB call_len (by rfl) Z.T.len (by decide +kernel) (pa_cons (pv 1) pa_nil)) pa_nil))) (fun _ _ => rfl))), ?_⟩
    rcases q with ⟨t, xs, rfl, hq, tp, l1, l2, q⟩ | ⟨z, rfl, l1, l2, q⟩
    · refine ⟨_, rfl, _, rfl, _, rfl, .ref t, xs.length, rfl, .inl ⟨xs, hq, rfl⟩, p, xs.length, n, rfl, hs, l1, l2, hn, fun d H' hd b s' => ?_⟩
      exact .inl ⟨t, xs, d, xs[d], rfl, rfl, b.sqL tp hq, atI_nat (List.getElem?_eq_getElem hd), q _ _ (List.getElem_mem hd) b s'⟩
    · refine ⟨_, rfl, _, rfl, _, rfl, .str z, z.length, rfl, ⟨by rw [sizeLine_eq]; omega, rfl⟩, p, z.length, n, rfl, hs, l1, l2, hn, fun d H' hd b s' => ?_⟩
      have hd' : d < z.cps.toList.length := by
        rw [← len_cps]
        exact hd
      exact .inr (.inr ⟨z, d, z.cps.toList[d], rfl, rfl, by rw [sizeLine_eq]; omega, atI_nat (List.getElem?_eq_getElem hd'), q _ _ (List.getElem_mem hd') b s'⟩)
theorem Src.fresh {n : Nat} {H : Hp} {p t : Addr} (h : Src n H p) (e : H t = none) : t ≠ p := fun z => by
  obtain ⟨a, b, c, h1, _⟩ := h
  rw [z, h1] at e
  cases e
theorem Src.upd {n : Nat} {H : Hp} {p D : Addr} {o : HO} (h : Src n H p) (ne : D ≠ p) : Src n (upd H D o) p := by
  obtain ⟨a, b, c, h1, h2⟩ := h
  refine ⟨a, b, c, ?_, h2⟩
  rw [upd_ne (Ne.symm ne)]
  exact h1
theorem sg_str (l : List Nat) : (l.map fun c => V.str (sg c)) = (l.map sg).map V.str := by
  rw [List.map_map]
  rfl
abbrev sTag : Stmt := top 19
abbrev nTag : List Str := ["_law_source_here", "_law_small", "_law_signs", "_law_k"]
theorem scTag : FnScope nTag ["_law_source_here"] (defScope sTag) := ⟨rfl, rfl, rfl, by decide +kernel, rfl, by decide +kernel, by decide +kernel⟩
def spTag : Sp := fun vs H Q _ => ∃ (p : Addr) (n : Nat), vs = [.ref p] ∧ Src n H p ∧ n < 90000 ∧ ∀ z H', nameS z = true → But p H H' → Src (n + 12) H' p → Q (.str z) H'
theorem ok_tag {f : Addr} {fd : FuncData} {k : Nat} (F : Fun K "_law_tag" "_law_tag" sTag f fd) (Z : Hlp K mg fP fO dP dO) : FnOk P w K mg base CX0 (k + 3) f fd ["_law_source_here"] spTag := by
  have GP : FnOk P w K mg base CX0 (k + 2) fP dP ["_law_source_here", "_law_many"] spPick := ok_pick Z.zP.F Z.T
  have GO : FnOk P w K mg base CX0 (k + 2) fO dO ["_law_source_here", "_law_things"] (spOne K) := ok_one Z
  refine F.ok scTag (fun vs H Q E h => ?_) (fun cdv A outer s H vs Q E hr h => ?_)
  · obtain ⟨p, n, rfl, _⟩ := h
    rfl
  · obtain ⟨p, n, rfl, hs, hn, q⟩ := h
    refine ⟨_, pss_cons (ps_if (pt_cmpR op_eq (pe_call GP hr rfl Z.zP.g Z.zP.F.kp Z.zP.b .nil pass0 (pa_cons (pv 0) (pa_cons pe_int pa_nil))) pe_int (nomark _))
        (pss_one (ps_ret (pe_call GO hr rfl Z.zO.g Z.zO.F.kp Z.zO.b .nil pass0 (pa_cons (pv 0) (pa_cons (pe_lst (pa_cons pe_str (pa_cons pe_str (pa_cons pe_str (pa_cons pe_str (pa_cons pe_str (pa_cons pe_str (pa_cons pe_str (pa_cons pe_str (pa_cons pe_str (pa_cons pe_str pa_nil))))))))))) pa_nil))))) pss_nil)
      (pss_cons (ps_set (i := 1) scTag.nd rfl (.inr rfl) pe_str)
      (pss_cons (ps_setLc (i := 2) (own := [("_law_k", 3)]) (g := gName 3) (tt := tYes) rfl scTag.nd rfl rfl (sw_true rfl rfl rfl (by decide +kernel))
          (pi_range1 (by rfl) Z.T2.ran (pa_cons (pe_call GO hr rfl Z.zO.g Z.zO.F.kp Z.zO.b .nil pass0 (pa_cons (pv 0) (pa_cons (pe_lst (pa_cons pe_int (pa_cons pe_int (pa_cons pe_int (pa_cons pe_int (pa_cons pe_int pa_nil)))))) pa_nil))) pa_nil))
          (blkOk_by (N := nTag) (sc := defScope sTag) (by decide +kernel)) (fun _ _ _ _ _ => pg_name (i := 3) scTag.nd rfl (.inl rfl)) (fun _ _ _ _ _ => pts_nil)
          (fun _ _ _ _ _ => pe_call GO hr rfl Z.zO.g Z.zO.F.kp Z.zO.b .nil pass0 (pa_cons (pv 0) (pa_cons (pe_op op_add_str (pv 1) pe_str) pa_nil))))
      (pss_one (ps_ret (pe_op op_add_str (pe_call GO hr rfl Z.zO.g Z.zO.F.kp Z.zO.b .nil pass0 (pa_cons (pv 0) (pa_cons (pv 1) pa_nil))) (pe_join pe_str (pv 2))))))), ?_⟩
    refine ⟨_, rfl, p, 3, n, rfl, hs, by decide, by decide, by omega, fun d H1 hd b1 s1 => ?_⟩
    by_cases d0 : d = 0
    · subst d0
      refine ⟨rfl, true, rfl, iteT ⟨_, rfl, sm100 (Nat.le_of_ble_eq_true rfl), fun t nt => ?_⟩⟩
      refine ⟨p, n + 1, .ref t, rfl, s1.mono (same_new nt), by omega, .inl ⟨t, words.map V.str, rfl, SqL.of upd_same, s1.fresh nt, by decide, by decide, fun x H' hx b s' => ?_⟩⟩
      obtain ⟨z, hz, rfl⟩ := List.mem_map.mp hx
      exact q z H' (words_names z hz) ((b1.trans (But.of (same_new nt))).trans b) (s'.le (by omega))
    · refine ⟨rfl, false, congrArg V.bl (decide_eq_false fun z => d0 (by have := V.int.inj z; omega)), iteF ?_⟩
      refine ⟨_, rfl, sm100 (Nat.le_of_ble_eq_true rfl), fun t nt => ?_⟩
      have st := same_new (o := .lst [V.int 0, V.int 0, V.int 1, V.int 2, V.int 7]) nt
      refine ⟨p, n + 1, .ref t, rfl, s1.mono st, by omega, .inl ⟨t, _, rfl, SqL.of upd_same, s1.fresh nt, Nat.le_of_ble_eq_true rfl, Nat.lt_of_sub_ne_zero (by decide), fun x H2 hx b2 s2 => ?_⟩⟩
      obtain ⟨j, rfl, hj⟩ : ∃ j : Nat, x = V.int j ∧ j ≤ 7 := by
        simp only [List.mem_cons, List.not_mem_nil, or_false] at hx
        rcases hx with rfl | rfl | rfl | rfl | rfl
        · exact ⟨0, rfl, by decide⟩
        · exact ⟨0, rfl, by decide⟩
        · exact ⟨1, rfl, by decide⟩
        · exact ⟨2, rfl, by decide⟩
        · exact ⟨7, rfl, by decide⟩
      have bA : But p H H2 := (b1.trans (But.of st)).trans b2
      refine ⟨j, rfl, by omega, by omega, fun D nD => ?_⟩
      have Dp : D ≠ p := s2.fresh nD
      refine lc_it (walk_range (lo := 0) (n := (j : Int).toNat)) (fun i H5 => But p H2 H5 ∧ Src (n + 2 + i) H5 p ∧ ∃ cs : List Nat, cs.length = i ∧ (∀ c ∈ cs, inS sgns c = true) ∧ H5 D = some (.lst (cs.map fun c => V.str (sg c))))
        ⟨But.of (same_new nD), s2.mono (same_new nD), [], rfl, fun c hc => (nomatch hc), upd_same⟩ (fun _ _ _ _ => trivial) ?_ ?_
      · rintro i x H5 H6 hi ⟨b5, s5, cs, hl, hc, h5⟩ ⟨rfl, rfl⟩
        refine ⟨rfl, yesIf ?_⟩
        refine ⟨_, rfl, _, rfl, lets, ("0123456789" : Str), rfl, rfl, Nat.le_of_ble_eq_true (by decide +kernel), p, n + 2 + i, .str sgns, rfl, s5, by omega, .inr ⟨sgns, rfl, by decide +kernel, by decide +kernel, fun c H7 hm b7 s7 => ?_⟩⟩
        refine ⟨_, b7 _ _ Dp h5, ?_, fun b o ne e => ?_, s7.upd Dp, cs ++ [c], ?_, ?_, ?_⟩
        · rw [List.length_map, sizeLine_eq]
          omega
        · rw [upd_ne (ne_of_none e nD)]
          exact b7 _ _ ne (b5 _ _ ne e)
        · rw [List.length_append, hl]
          rfl
        · intro d hd
          rcases List.mem_append.mp hd with h | h
          · exact hc d h
          · rw [List.mem_singleton.mp h]
            exact decide_eq_true hm
        · rw [upd_same, List.map_append]
          rfl
      · rintro H5 ⟨b5, s5, cs, hl, hc, h5⟩
        have jl : cs.length ≤ 7 := by
          rw [hl]
          omega
        refine ⟨_, rfl, _, rfl, p, _, .str lets, rfl, s5, by omega, .inr ⟨lets, rfl, by decide +kernel, by decide +kernel, fun c H7 hm b7 s7 => ?_⟩⟩
        have ej := join_sg cs
        have elen : (Txt.join ("" : Str) (cs.map sg)).length = cs.length := by rw [len_cps, ej]
        refine ⟨⟨_, rfl⟩, _, rfl, _, D, cs.map sg, rfl, rfl, .inl ?_, ?_, _, _, rfl, rfl, ?_, q _ H7 (name_of (c := c) (cs := cs) ?_ hm hc jl) ((bA.trans b5).trans b7) (s7.le (by omega))⟩
        · rw [← sg_str]
          exact SqL.of (b7 _ _ Dp h5)
        · have e1 : (cs.map sg).map (·.length) = cs.map fun _ => 1 := by
            rw [List.map_map]
            rfl
          have e2 : (cs.map fun _ => 1).sum = cs.length := by
            clear jl hl hc h5 ej elen e1
            induction cs with
            | nil => rfl
            | cons a l ih =>
              rw [List.map_cons, List.sum_cons, ih, List.length_cons]
              omega
          rw [e1, e2]
          show cs.length + (cs.map sg).length * 0 ≤ 16777216
          omega
        · rw [elen]
          show 1 + cs.length ≤ sizeLine
          exact sm100 (by omega)
        · rw [cps_append, ej]
          rfl
end
end LR
set_option Elab.async false
set_option linter.all false
set_option maxRecDepth 100000
set_option maxHeartbeats 4000000
namespace LR
open PySem L2
/-! ### the spare names of a tag -/
theorem nodup_le {α : Type} [DecidableEq α] : ∀ {l m : List α}, l.Nodup → (∀ x ∈ l, x ∈ m) → l.length ≤ m.length
  | [], _, _, _ => Nat.zero_le _
  | a :: l, m, nd, sub => by
    obtain ⟨na, nl⟩ := List.nodup_cons.mp nd
    have ha : a ∈ m := sub a (List.mem_cons_self ..)
    have ih := nodup_le (m := m.erase a) nl fun x hx => (List.mem_erase_of_ne (show x ≠ a from fun e => na (by rw [← e]; exact hx))).mpr (sub x (List.mem_cons_of_mem _ hx))
    rw [List.length_erase_of_mem ha] at ih
    have : 0 < m.length := List.length_pos_of_mem ha
    rw [List.length_cons]
    omega
theorem some_new {α : Type} [DecidableEq α] {l m : List α} (nd : l.Nodup) (lt : m.length < l.length) : ∃ x ∈ l, x ∉ m := by
  refine Classical.byContradiction fun h => ?_
  have := nodup_le (m := m) nd fun x hx => Classical.byContradiction fun g => h ⟨x, hx, g⟩
  omega
def dig (j : Nat) : Str := Str.ofString (toString ((0 : Int) + (j : Int)))
theorem dig_cps : ∀ j : Nat, j < 10 → (dig j).cps.toList = [48 + j] := by decide +kernel
theorem dig_sg : ∀ j : Nat, j < 10 → inS sgns (48 + j) = true := by decide +kernel
def cut6 (z : Str) : Str := cutS z none (some 6)
theorem cut6_cps (z : Str) : (cut6 z).cps.toList = z.cps.toList.take 6 := by
  unfold cut6 cutS
  have e1 : HT.sIx z.length 0 none = 0 := rfl
  rw [e1]
  simp only [List.drop_zero, Nat.sub_zero]
  have e2 : HT.sIx z.length z.length (some 6) = min z.length 6 := by
    unfold HT.sIx
    simp
    omega
  rw [e2]
  have hl := len_cps z
  by_cases h : z.length ≤ 6
  · rw [Nat.min_eq_left h, hl, List.take_length, List.take_of_length_le (by omega)]
  · rw [Nat.min_eq_right (by omega)]
def spares (z : Str) (m : Nat) : List Str := z :: (List.range m).map fun j => cut6 z ++ dig j
theorem spare_name {z : Str} (h : nameS z = true) {j : Nat} (hj : j < 10) : nameS (cut6 z ++ dig j) = true := by
  obtain ⟨c, cs, e, hc, hs, hl⟩ := name_to h
  refine name_of (c := c) (cs := cs.take 5 ++ [48 + j]) ?_ hc (fun d hd => ?_) ?_
  · rw [cps_append, cut6_cps, dig_cps j hj, e]
    rfl
  · rcases List.mem_append.mp hd with q | q
    · exact hs d (List.mem_of_mem_take q)
    · rw [List.mem_singleton.mp q]
      exact dig_sg j hj
  · rw [List.length_append, List.length_take]
    show min 5 cs.length + 1 ≤ 7
    omega
theorem spares_names {z : Str} (h : nameS z = true) {m : Nat} (hm : m ≤ 10) : ∀ y ∈ spares z m, nameS y = true := by
  intro y hy
  rcases List.mem_cons.mp hy with rfl | hy
  · exact h
  · obtain ⟨j, hj, rfl⟩ := List.mem_map.mp hy
    exact spare_name h (by have := List.mem_range.mp hj; omega)
theorem spares_new {z : Str} {m : Nat} (hm : m ≤ 10) {found : List Str} (hl : found.length < m) : ∃ y ∈ spares z m, y ∉ found := by
  have nd : ((List.range m).map fun j => cut6 z ++ dig j).Nodup := by
    refine List.Pairwise.map _ (fun i j (h : i ≠ j ∧ i < m ∧ j < m) e => h.1 ?_) ?_ (R := fun i j => i ≠ j ∧ i < m ∧ j < m)
    · have e' : (cut6 z ++ dig i).cps.toList = (cut6 z ++ dig j).cps.toList := by rw [e]
      rw [cps_append, cps_append, dig_cps i (by omega), dig_cps j (by omega)] at e'
      have := List.append_cancel_left e'
      injection this with this
      omega
    · exact List.Pairwise.imp_of_mem (fun {a b} ha hb h => ⟨h, List.mem_range.mp ha, List.mem_range.mp hb⟩) List.nodup_range
  obtain ⟨x, hx, hn⟩ := some_new nd (m := found) (by rw [List.length_map, List.length_range]; exact hl)
  exact ⟨x, List.mem_cons_of_mem _ hx, hn⟩
theorem inV_str (z : Str) (l : List Str) : inV (.str z) (l.map V.str) = decide (z ∈ l) := by
  unfold inV
  rw [List.any_map, Bool.eq_iff_iff, List.any_eq_true, decide_eq_true_eq]
  constructor
  · rintro ⟨y, hy, e⟩
    have e' : (y == z) = true := e
    rw [beq_iff_eq] at e'
    exact e' ▸ hy
  · intro h
    exact ⟨z, h, beq_self_eq_true z⟩
theorem flat_all (l : List Str) : (l.map V.str).all flatV = true := by
  rw [List.all_map]
  exact List.all_eq_true.mpr fun _ _ => rfl
end LR
set_option Elab.async false
set_option linter.all false
set_option maxRecDepth 100000
set_option maxHeartbeats 4000000
namespace LR
open PySem L2
open PySem.W (Frag nsIn findIn kitOne)
theorem notInK {X : Cx} {K : Frag} (h : X.K = K := by rfl) : OpR X (compareOp .NotIn) (rIn K true) := h ▸ op_notIn_seq
section
variable {P : Program} {w : World} {K : Frag} {mg : Str → Option Value} {base : Heap} {fP fO fT : Addr} {dP dO dT : FuncData}
abbrev sTags : Stmt := top 20
abbrev nTags : List Str := ["_law_source_here", "_law_many", "_law_found", "_law_k", "_law_tag_here", "_law_spare", "_law_j", "_law_each"]
theorem scTags : FnScope nTags ["_law_source_here", "_law_many"] (defScope sTags) := ⟨rfl, rfl, rfl, by decide +kernel, rfl, by decide +kernel, by decide +kernel⟩
def spTags : Sp := fun vs H Q _ => ∃ (p : Addr) (m n : Nat), vs = [.ref p, .int m] ∧ Src n H p ∧ m ≤ 8 ∧ n < 80000 ∧ ∀ (t : Addr) (zs : List Str) H', H t = none → H' t = some (.lst (zs.map V.str)) → zs.length = m → zs.Nodup → (∀ z ∈ zs, nameS z = true) → But p H H' → Src (n + 12 * m) H' p → Q (.ref t) H'
theorem ok_tags {f : Addr} {fd : FuncData} {k : Nat} (F : Fun K "_law_tags" "_law_tags" sTags f fd) (Z : Hlp K mg fP fO dP dO) (ZT : DefAt K mg "_law_tag" sTag fT dT ["_law_source_here"]) : FnOk P w K mg base CX0 (k + 4) f fd ["_law_source_here", "_law_many"] spTags := by
  have GT : FnOk P w K mg base CX0 (k + 3) fT dT ["_law_source_here"] spTag := ok_tag ZT.F Z
  refine F.ok scTags (fun vs H Q E h => ?_) (fun cdv A outer s H vs Q E hr h => ?_)
  · obtain ⟨p, m, n, rfl, _⟩ := h
    rfl
  · obtain ⟨p, m, n, rfl, hs, hm, hn, q⟩ := h
    refine ⟨_, pss_cons (ps_set (i := 2) scTags.nd rfl (.inr rfl) (pe_lst pa_nil))
      (pss_cons (ps_for PassesOwn.never rfl (pi_range1 (by rfl) Z.T2.ran (pa_cons (pv 1) pa_nil)) (pg_name (i := 3) scTags.nd rfl (.inl rfl))
        (pss_cons (ps_set (i := 4) scTags.nd rfl (.inr rfl) (pe_call GT hr rfl ZT.g ZT.F.kp ZT.b .nil pass0 (pa_cons (pv 0) pa_nil)))
        (pss_cons (ps_set (i := 5) scTags.nd rfl (.inl rfl) (pe_op op_cat (pe_lst (pa_cons (pv 4) pa_nil))
          (pe_lc (own := [("_law_j", 6)]) (g := gName 6) (tt := tYes) (te := tOp (fun x y H Q => ∃ i j, x = .str i ∧ y = .str j ∧ i.length + j.length ≤ sizeLine ∧ Q (.str (i ++ j)) H) (tSl rSlS (tVar 4) tNoPart (tPart (tC (.int 6)))) (tCB (fun xs H Q => ∃ i : Int, xs = [.int i] ∧ i.natAbs.log2 < 1920 ∧ Q (.str (toString i)) H) (tCons (tVar 6) tNil)))
            rfl scTags.nd (pi_range1 (by rfl) Z.T2.ran (pa_cons (pv 1) pa_nil)) (blkOk_by (N := nTags) (sc := defScope sTags) (by decide +kernel)) (fun _ _ _ _ _ => pg_name (i := 6) scTags.nd rfl (.inl rfl)) (fun _ _ _ _ _ => pts_nil)
            (fun _ _ _ _ _ => pe_op op_add_str (pe_slice sl_str (pv 4) po_none (po_some pe_int)) (pe_callTy call_str_int (by rfl) Z.T.str (by decide +kernel) (pa_cons (pv 6) pa_nil))))))
        (pss_one (ps_expr (pe_bm PySem.F.plainAttrs_list PySem.F.slot_list_append PySem.F.type_list_append mt_append (pv 2) (pa_cons (pe_ix ix_list
          (pe_lc (own := [("_law_each", 7)]) (g := gName 7) (tt := tTest (tOp (rIn K true) (tVar 7) (tVar 2))) (te := tVar 7)
            rfl scTags.nd (pi_list (pv 5)) (blkOk_by (N := nTags) (sc := defScope sTags) (by decide +kernel)) (fun _ _ _ _ _ => pg_name (i := 7) scTags.nd rfl (.inl rfl)) (fun _ _ _ _ _ => pts_one (pt_cmpR (notInK (K := K)) (pv 7) (pv 2) rfl))
            (fun _ _ _ _ _ => pv 7)) pe_int (fun _ _ => rfl)) pa_nil)))))))
      (pss_one (ps_ret (pv 2)))), ?_⟩
    refine ⟨sm100 (Nat.le_of_ble_eq_true rfl), fun D0 n0 => ?_⟩
    have s0 : Same H (upd H D0 (.lst [])) := same_new n0
    have D0p : D0 ≠ p := hs.fresh n0
    refine ⟨_, rfl, (m : Int), rfl, by omega, by omega, ?_⟩
    refine for_it (walk_range (lo := 0) (n := (m : Int).toNat)) (fun i σ H2 => ∃ (x3 x4 x5 x6 x7 : Option V) (zs : List Str), σ = [some (.ref p), some (.int m), some (.ref D0), x3, x4, x5, x6, x7] ∧ But p H H2 ∧ Src (n + 12 * i) H2 p ∧ H2 D0 = some (.lst (zs.map V.str)) ∧ zs.length = i ∧ zs.Nodup ∧ ∀ z ∈ zs, nameS z = true)
      ⟨_, _, _, _, _, [], rfl, But.of s0, hs.mono s0, upd_same, rfl, List.nodup_nil, fun z hz => (nomatch hz)⟩ (fun _ _ _ _ _ => trivial) ?_ ?_
    · rintro i x σ H3 H2 hi ⟨x3, x4, x5, x6, x7, zs, rfl, b2, s2, h2, l2, nd, nm⟩ ⟨rfl, rfl⟩
      have im : i < m := by omega
      refine ⟨_, rfl, p, _, rfl, s2, by omega, fun z H4 nz b4 s4 => ?_⟩
      have zl := (name_ok nz).2.2
      refine ⟨_, rfl, sm100 (Nat.le_of_ble_eq_true rfl), fun l1 n1 => ?_⟩
      have t1 : Same H4 (upd H4 l1 (.lst [.str z])) := same_new n1
      refine ⟨_, rfl, (m : Int), rfl, by omega, by omega, fun D nD => ?_⟩
      refine lc_it (walk_range (lo := 0) (n := (m : Int).toNat)) (fun i H5 => Same (upd H4 l1 (.lst [.str z])) H5 ∧ H5 D = some (.lst (((List.range i).map fun j => cut6 z ++ dig j).map V.str))) ⟨same_new nD, upd_same⟩ (fun _ _ _ _ => trivial) ?_ ?_
      · rintro k x H5 H6 hk ⟨t5, h5⟩ ⟨rfl, rfl⟩
        have k8 : k < 8 := by omega
        refine ⟨rfl, yesIf ?_⟩
        have c6 : (cut6 z).length ≤ 8 := Nat.le_trans (cutS_length z none (some 6)) zl
        have d1 : (dig k).length = 1 := by
          rw [len_cps, dig_cps k (by omega)]
          rfl
        refine ⟨_, rfl, 6, rfl, z, rfl, sm100 (by omega), _, rfl, _, rfl, ?_, _, _, rfl, rfl, ?_, _, h5, ?_, fun b o e => ?_, ?_⟩
        · show ((0 : Int) + (k : Int)).natAbs.log2 < 1920
          have e : ((0 : Int) + (k : Int)).natAbs = k := by omega
          rw [e]
          exact Nat.lt_of_le_of_lt (Nat.log2_le_self k) (by omega)
        · show (cut6 z).length + (dig k).length ≤ sizeLine
          exact sm100 (by omega)
        · rw [List.length_map, List.length_map, List.length_range, sizeLine_eq]
          omega
        · rw [upd_ne (ne_of_none e nD)]
          exact t5 _ _ e
        · rw [upd_same, List.range_succ, List.map_append, List.map_append]
          rfl
      · rintro H5 ⟨t5, h5⟩
        have em : (m : Int).toNat = m := Int.toNat_natCast m
        rw [em] at h5
        refine ⟨l1, D, _, _, rfl, rfl, t5 _ _ upd_same, h5, ?_, fun sp nsp => ?_⟩
        · rw [List.length_map, List.length_map, List.length_range]
          exact sm100 (show 1 + m ≤ 100 by omega)
        have t6 : Same H5 (upd H5 sp (.lst ((spares z m).map V.str))) := same_new nsp
        have b6 : But p H2 (upd H5 sp (.lst ((spares z m).map V.str))) := ((b4.trans (But.of t1)).trans (But.of t5)).trans (But.of t6)
        have h6 := b6 _ _ D0p h2
        have s6 := ((s4.mono t1).mono t5).mono t6
        have hsp : upd H5 sp (.lst ((spares z m).map V.str)) sp = some (.lst ((spares z m).map V.str)) := upd_same
        refine ⟨_, rfl, .inl ⟨rfl, _, SqL.of h6⟩, _, rfl, sp, rfl, ⟨_, SqL.of hsp⟩, fun D2 n2 => ?_⟩
        refine lc_it (walk_list (K := K) (a := sp) (xs := (spares z m).map V.str)) (fun i H7 => Same (upd H5 sp (.lst ((spares z m).map V.str))) H7 ∧ H7 D2 = some (.lst ((((spares z m).take i).filter fun y => !decide (y ∈ zs)).map V.str))) ⟨same_new n2, upd_same⟩ (fun i H7 _ h => SqL.of (h.1 _ _ hsp)) ?_ ?_
        · rintro k x H7 H8 hk ⟨t7, h7⟩ ⟨rfl, hx⟩
          have hx' : ((spares z m).map V.str)[k]? = some x := hx
          rw [List.getElem?_map] at hx'
          obtain ⟨y, hy, rfl⟩ := Option.map_eq_some_iff.mp hx'
          refine ⟨rfl, _, rfl, _, rfl, D0, _, rfl, .inl (SqL.of (t7 _ _ h6)), rfl, flat_all zs, !decide (y ∈ zs), congrArg V.bl (show (!inV (.str y) (zs.map V.str)) = !decide (y ∈ zs) by rw [inV_str]), ?_⟩
          have tk : (spares z m).take (k + 1) = (spares z m).take k ++ [y] := by
            rw [List.take_succ, hy]
            rfl
          by_cases hz : y ∈ zs
          · rw [decide_eq_true hz]
            refine iteF ⟨t7, ?_⟩
            rw [h7, tk, List.filter_append]
            simp [hz]
          · rw [decide_eq_false hz]
            refine iteT ⟨_, rfl, _, h7, ?_, fun b o e => ?_, ?_⟩
            · rw [List.length_map]
              refine Nat.lt_of_le_of_lt (List.length_filter_le _ _) ?_
              rw [List.length_take]
              have : (spares z m).length ≤ 100 := by
                show ((List.range m).map _).length + 1 ≤ 100
                rw [List.length_map, List.length_range]
                omega
              rw [sizeLine_eq]
              omega
            · rw [upd_ne (ne_of_none e n2)]
              exact t7 _ _ e
            · rw [upd_same, tk, List.filter_append, List.map_append]
              simp [hz]
        · rintro H7 ⟨t7, h7⟩
          rw [List.length_map, List.take_length] at h7
          obtain ⟨y, hy, hn⟩ := spares_new (z := z) (m := m) (by omega) (found := zs) (by omega)
          have hin : y ∈ (spares z m).filter fun y => !decide (y ∈ zs) := List.mem_filter.mpr ⟨hy, by simp [hn]⟩
          cases eL : (spares z m).filter fun y => !decide (y ∈ zs) with
          | nil =>
            rw [eL] at hin
            cases hin
          | cons y0 r0 =>
            rw [eL] at h7
            have h0 : y0 ∈ (spares z m).filter fun y => !decide (y ∈ zs) := by
              rw [eL]
              exact List.mem_cons_self ..
            obtain ⟨g1, g2⟩ := List.mem_filter.mp h0
            have g3 : y0 ∉ zs := by simpa using g2
            have h67 := t7 _ _ h6
            refine ⟨D2, _, 0, .str y0, rfl, rfl, SqL.of h7, atI_nat (j := 0) rfl, D0, _, _, rfl, rfl, h67, ?_, ?_⟩
            · rw [List.length_map, sizeLine_eq]
              omega
            refine ⟨_, _, _, _, _, zs ++ [y0], rfl, fun b o ne e => ?_, ?_, ?_, ?_, ?_, fun w hw => ?_⟩
            · rw [upd_ne (ne_of_none e n0)]
              exact t7 _ _ (b6 _ _ ne (b2 _ _ ne e))
            · exact ((s6.mono t7).upd D0p).le (by omega)
            · rw [upd_same, List.map_append]
              rfl
            · rw [List.length_append, l2]
              rfl
            · exact List.nodup_append.mpr ⟨nd, List.nodup_cons.mpr ⟨List.not_mem_nil, List.nodup_nil⟩, fun a ha b hb e => g3 (by rw [List.mem_singleton.mp hb] at e; exact e ▸ ha)⟩
            · rcases List.mem_append.mp hw with h | h
              · exact nm w h
              · rw [List.mem_singleton.mp h]
                exact spares_names nz (by omega) y0 g1
    · rintro σ H2 ⟨x3, x4, x5, x6, x7, zs, rfl, b2, s2, h2, l2, nd, nm⟩
      rw [Int.toNat_natCast] at l2 s2
      exact ⟨_, rfl, q D0 zs H2 n0 h2 l2 nd nm b2 s2⟩
end
end LR
set_option Elab.async false
set_option linter.all false
set_option maxRecDepth 100000
set_option maxHeartbeats 4000000
namespace LR
open PySem L2
open PySem.W (Frag nsIn findIn kitOne)
/-- the values that rows are drawn with -/
def vals : List Int := [-3, -2, -1, 0, 1, 2, 3, 10 ^ 25, -(10 ^ 25), 7]
theorem small_vals : ∀ d : Nat, d < 7 → ((d : Int) - 3) ∈ vals := by decide
structure Drawn (zs : List Str) (rows : List RowD) : Prop where
  nm : ∀ r ∈ rows, r.1 ∈ zs
  nd : (rows.map keyOf).Nodup
  tm : ∀ r ∈ rows, -10 ≤ r.2.1 ∧ r.2.1 ≤ 20
  vl : ∀ r ∈ rows, r.2.2 ∈ vals
def encP (r : RowD) : PyData := .tuple [.str r.1, .int r.2.1]
def PlAt (H : Hp) (v : V) (r : RowD) : Prop := ∃ a, v = V.ref a ∧ H a = some (.tup [.str r.1, .int r.2.1])
theorem PlAt.mono {H H' : Hp} {v : V} {r : RowD} (h : PlAt H v r) (s : Same H H') : PlAt H' v r := by
  obtain ⟨a, e, h⟩ := h
  exact ⟨a, e, s _ _ h⟩
theorem PlAt.but {n : Nat} {p : Addr} {H H' : Hp} {v : V} {r : RowD} (h : PlAt H v r) (b : But p H H') (s : Src n H p) : PlAt H' v r := by
  obtain ⟨a, e, h⟩ := h
  exact ⟨a, e, b _ _ (s.ne h fun _ z => nomatch z) h⟩
theorem PlAt.dp {K : Frag} {H : Hp} {v : V} {r : RowD} (h : PlAt H v r) : Dp K H v (encP r) := by
  obtain ⟨a, rfl, h⟩ := h
  exact .tup (sqT_of h) (.cons (.str _) (.cons (.int _) .nil))
theorem pls_dp {K : Frag} {H : Hp} : ∀ {vs : List V} {rows : List RowD}, Paired (PlAt H) vs rows → DpAll K H vs (rows.map encP)
  | _, _, .nil => .nil
  | _, _, .cons h t => .cons h.dp (pls_dp t)
theorem any_encP (l : List RowD) (r : RowD) : ((l.map encP).any fun z => PyData.eqv z (encP r)) = true ↔ keyOf r ∈ l.map keyOf := by
  rw [List.any_map, List.any_eq_true, List.mem_map]
  have key : ∀ x : RowD, PyData.eqv (encP x) (encP r) = true ↔ keyOf x = keyOf r := fun x => by
    simp only [encP, PyData.eqv, PyData.eqvAll, Bool.and_true, Bool.and_eq_true, beq_iff_eq, keyOf, List.cons.injEq, Sum.inr.injEq, Sum.inl.injEq, and_true]
  constructor
  · rintro ⟨x, hx, e⟩
    exact ⟨x, hx, (key x).mp e⟩
  · rintro ⟨x, hx, e⟩
    exact ⟨x, hx, (key x).mpr e⟩
theorem shaped_encP {r : RowD} (h : nameS r.1 = true) : SeqAt.shaped (encP r) = true := by
  have h1 : PyData.canLay0 (encP r) = true := by simp [encP, PyData.canLay0, PyData.canLayAll0, (name_ok h).1]
  have h2 : (encP r).depth = 1 := by simp [encP, PyData.depth, PyData.depthAll]
  unfold SeqAt.shaped
  rw [h1, h2]
  rfl
theorem shaped_pls : ∀ {l : List RowD}, (∀ r ∈ l, nameS r.1 = true) → SeqAt.shaped (.list (l.map encP)) = true := by
  intro l h
  have h1 : PyData.canLayAll0 (l.map encP) = true := by
    induction l with
    | nil => rfl
    | cons r l ih =>
      rw [List.map_cons, PyData.canLayAll0, ih fun q hq => h q (List.mem_cons_of_mem _ hq)]
      simp [encP, PyData.canLay0, PyData.canLayAll0, (name_ok (h r (List.mem_cons_self ..))).1]
  have h2 : PyData.depthAll (l.map encP) ≤ 1 := by
    clear h1 h
    induction l with
    | nil => simp [PyData.depthAll]
    | cons r l ih =>
      have e : (encP r).depth = 1 := by simp [encP, PyData.depth, PyData.depthAll]
      rw [List.map_cons, PyData.depthAll]
      omega
  unfold SeqAt.shaped
  rw [PyData.canLay0, h1, Bool.true_and, decide_eq_true_eq, PyData.depth]
  omega
section
variable {P : Program} {w : World} {K : Frag} {mg : Str → Option Value} {base : Heap} {fP fO : Addr} {dP dO : FuncData}
abbrev sLines : Stmt := top 21
abbrev nLines : List Str := ["_law_source_here", "_law_tags_here", "_law_most", "_law_found", "_law_places", "_law_k", "_law_place", "_law_amount"]
theorem scLines : FnScope nLines ["_law_source_here", "_law_tags_here", "_law_most"] (defScope sLines) := ⟨rfl, rfl, rfl, by decide +kernel, rfl, by decide +kernel, by decide +kernel⟩
def spLines : Sp := fun vs H Q _ => ∃ (p t : Addr) (m n : Nat) (zs : List Str), vs = [.ref p, .ref t, .int m] ∧ Src n H p ∧ m ≤ 9 ∧ n < 70000 ∧ t ≠ p ∧ H t = some (.lst (zs.map V.str)) ∧ 1 ≤ zs.length ∧ zs.length < 1000 ∧ (∀ z ∈ zs, nameS z = true) ∧
  ∀ (L : Addr) (ls : List V) (rows : List RowD) H', H L = none → H' L = some (.lst ls) → Rws H' ls rows → Drawn zs rows → rows.length ≤ m → But p H H' → Src (n + 40) H' p → Q (.ref L) H'
theorem ok_lines {f : Addr} {fd : FuncData} {k : Nat} (F : Fun K "_law_lines" "_law_lines" sLines f fd) (Z : Hlp K mg fP fO dP dO) : FnOk P w K mg base CX0 (k + 3) f fd ["_law_source_here", "_law_tags_here", "_law_most"] spLines := by
  have GP : FnOk P w K mg base CX0 (k + 2) fP dP ["_law_source_here", "_law_many"] spPick := ok_pick Z.zP.F Z.T
  have GO : FnOk P w K mg base CX0 (k + 2) fO dO ["_law_source_here", "_law_things"] (spOne K) := ok_one Z
  refine F.ok scLines (fun vs H Q E h => ?_) (fun cdv A outer s H vs Q E hr h => ?_)
  · obtain ⟨p, t, m, n, zs, rfl, _⟩ := h
    rfl
  · obtain ⟨p, t, m, n, zs, rfl, hs, hm, hn, tp, ht, z1, z2, hz, q⟩ := h
    refine ⟨_, pss_cons (ps_par (i := 3) (j := 4) rfl scLines.nd rfl rfl (by decide) rfl rfl (pa_cons (pe_lst pa_nil) (pa_cons (pe_lst pa_nil) pa_nil)) rfl)
      (pss_cons (ps_for PassesOwn.never rfl (pi_range1 (by rfl) Z.T2.ran (pa_cons (pe_call GP hr rfl Z.zP.g Z.zP.F.kp Z.zP.b .nil pass0 (pa_cons (pv 0) (pa_cons (pe_op op_add (pv 2) pe_int) pa_nil))) pa_nil)) (pg_name (i := 5) scLines.nd rfl (.inl rfl))
        (pss_cons (ps_set (i := 6) scLines.nd rfl (.inl rfl) (pe_tup (pa_cons (pe_call GO hr rfl Z.zO.g Z.zO.F.kp Z.zO.b .nil pass0 (pa_cons (pv 0) (pa_cons (pv 1) pa_nil))) (pa_cons (pe_op op_sub (pe_call GP hr rfl Z.zP.g Z.zP.F.kp Z.zP.b .nil pass0 (pa_cons (pv 0) (pa_cons pe_int pa_nil))) pe_int) pa_nil))))
        (pss_cons (ps_set (i := 7) scLines.nd rfl (.inl rfl) (pe_ix ix_list (pe_lst (pa_cons (pe_op op_sub (pe_call GP hr rfl Z.zP.g Z.zP.F.kp Z.zP.b .nil pass0 (pa_cons (pv 0) (pa_cons pe_int pa_nil))) pe_int) (pa_cons (pe_op op_pow pe_int pe_int) (pa_cons (pe_un un_neg (pe_op op_pow pe_int pe_int)) (pa_cons pe_int pa_nil)))))
            (pe_callB (call_max2 rfl) (by rfl) Z.T2.max (by decide +kernel) (pa_cons pe_int (pa_cons (pe_op op_sub (pe_call GP hr rfl Z.zP.g Z.zP.F.kp Z.zP.b .nil pass0 (pa_cons (pv 0) (pa_cons pe_int pa_nil))) pe_int) pa_nil))) (fun _ _ => rfl)))
        (pss_one (ps_if (pt_cmpR (op_notInD (hu65 hr)) (pv 6) (pv 4) rfl)
          (pss_cons (ps_expr (pe_bm PySem.F.plainAttrs_list PySem.F.slot_list_append PySem.F.type_list_append mt_append (pv 4) (pa_cons (pv 6) pa_nil)))
          (pss_one (ps_expr (pe_bm PySem.F.plainAttrs_list PySem.F.slot_list_append PySem.F.type_list_append mt_append (pv 3) (pa_cons (pe_op op_catT (pv 6) (pe_tup (pa_cons (pv 7) pa_nil))) pa_nil))))) pss_nil)))))
      (pss_one (ps_ret (pv 3)))), ?_⟩
    refine ⟨sm100 (Nat.le_of_ble_eq_true rfl), fun L nL => ⟨sm100 (Nat.le_of_ble_eq_true rfl), fun PL nPL => ⟨_, _, rfl, ?_⟩⟩⟩
    have c1 : Same H (upd H L (.lst [])) := same_new nL
    have c2 : Same (upd H L (.lst [])) (upd (upd H L (.lst [])) PL (.lst [])) := same_new nPL
    have c3 := c1.trans c2
    have Lp : L ≠ p := hs.fresh nL
    have PLp : PL ≠ p := hs.fresh (c1.free nPL)
    have LPL : L ≠ PL := fun e => by
      rw [← e, upd_same] at nPL
      cases nPL
    refine ⟨_, rfl, _, rfl, _, _, rfl, rfl, p, m + 1, n, rfl, hs.mono c3, by omega, by omega, by omega, fun d H1 hd b1 s1 => ⟨(d : Int), rfl, by omega, by omega, ?_⟩⟩
    refine for_it (walk_range (lo := 0) (n := (d : Int).toNat)) (fun i σ H2 => ∃ (x5 x6 x7 : Option V) (rows : List RowD) (ls pls : List V), σ = [some (.ref p), some (.ref t), some (.int m), some (.ref L), some (.ref PL), x5, x6, x7] ∧ But p H H2 ∧ Src (n + 1 + 4 * i) H2 p ∧
        H2 L = some (.lst ls) ∧ Rws H2 ls rows ∧ H2 PL = some (.lst pls) ∧ Paired (PlAt H2) pls rows ∧ Drawn zs rows ∧ rows.length ≤ i)
      ⟨_, _, _, [], [], [], rfl, (But.of c3).trans b1, s1, b1 _ _ Lp (c2 _ _ upd_same), .nil, b1 _ _ PLp upd_same, .nil, ⟨fun r hr => (nomatch hr), List.nodup_nil, fun r hr => (nomatch hr), fun r hr => (nomatch hr)⟩, Nat.le_refl _⟩ (fun _ _ _ _ _ => trivial) ?_ ?_
    · rintro i x σ H3 H2 hi ⟨x5, x6, x7, rows, ls, pls, rfl, b2, s2, hL, hR, hPL, hP, hD, hl⟩ ⟨rfl, rfl⟩
      have id9 : i < 9 := by omega
      -- place = (one(S, tags), pick(S, 31) - 10)
      refine ⟨_, rfl, _, rfl, p, _, .ref t, rfl, s2, by omega, .inl ⟨t, _, rfl, SqL.of (b2 _ _ tp ht), tp, by rw [List.length_map]; exact z1, by rw [List.length_map]; exact z2, fun x H4 hx b4 s4 => ?_⟩⟩
      obtain ⟨z, hzz, rfl⟩ := List.mem_map.mp hx
      refine ⟨_, rfl, p, 31, _, rfl, s4, by decide, by decide, by omega, fun d5 H5 hd5 b5 s5 => ⟨_, _, rfl, rfl, sm100 (Nat.le_of_ble_eq_true rfl), fun pl npl => ?_⟩⟩
      have c6 : Same H5 (upd H5 pl (.tup [.str z, .int ((d5 : Nat) - 10)])) := same_new npl
      have s6 := s5.mono c6
      -- amount
      refine ⟨_, rfl, p, 7, _, rfl, s6, by decide, by decide, by omega, fun d7 H7 hd7 b7 s7 => ⟨_, _, rfl, rfl, 10, 25, rfl, rfl, ⟨by decide, by decide, by decide⟩, 10, 25, rfl, rfl, ⟨by decide, by decide, by decide⟩, _, rfl, sm100 (Nat.le_of_ble_eq_true rfl), fun al nal => ?_⟩⟩
      have c8 := same_new (o := .lst [V.int ((d7 : Nat) - 3), V.int (10 ^ (25 : Int).toNat), V.int (-(10 ^ (25 : Int).toNat)), V.int 7]) nal
      refine ⟨_, rfl, p, 12, _, rfl, s7.mono c8, by decide, by decide, by omega, fun d9 H9 hd9 b9 s9 => ⟨_, _, rfl, rfl, _, _, rfl, ?_⟩⟩
      have alp : al ≠ p := s7.fresh nal
      have plp : pl ≠ p := s5.fresh npl
      have ej : (if ((d9 : Nat) : Int) - 8 > 0 then ((d9 : Nat) : Int) - 8 else 0) = ((d9 - 8 : Nat) : Int) := by
        split <;> omega
      obtain ⟨u, hu, uv⟩ : ∃ u, [V.int ((d7 : Nat) - 3), V.int (10 ^ (25 : Int).toNat), V.int (-(10 ^ (25 : Int).toNat)), V.int 7][d9 - 8]? = some (.int u) ∧ u ∈ vals := by
        have h4 : d9 - 8 < 4 := by omega
        generalize d9 - 8 = j at h4
        match j, h4 with
        | 0, _ => exact ⟨(d7 : Nat) - 3, rfl, small_vals d7 hd7⟩
        | 1, _ => exact ⟨10 ^ 25, rfl, by decide⟩
        | 2, _ => exact ⟨-(10 ^ 25), rfl, by decide⟩
        | 3, _ => exact ⟨7, rfl, by decide⟩
      have b69 : But p (upd H5 pl (.tup [.str z, .int ((d5 : Nat) - 10)])) H9 := (b7.trans (But.of c8)).trans b9
      have b29 : But p H2 H9 := ((b4.trans b5).trans (But.of c6)).trans b69
      have hL9 := b29 _ _ Lp hL
      have hPL9 := b29 _ _ PLp hPL
      have hR9 := hR.but b29 s2
      have hP9 : Paired (PlAt H9) pls rows := Paired.mapP hP fun _ _ y => y.but b29 s2
      have hpl : H9 pl = some (.tup [.str z, .int ((d5 : Nat) - 10)]) := b69 _ _ plp upd_same
      have rnm : ∀ r ∈ rows, nameS r.1 = true := fun r hr => hz _ (hD.nm r hr)
      have znm := hz z hzz
      refine ⟨al, _, _, .int u, rfl, congrArg V.int ej, SqL.of (b9 _ _ alp upd_same), atI_nat hu, ?_⟩
      have pAt : PlAt H9 (.ref pl) (z, (d5 : Nat) - 10, u) := ⟨pl, rfl, hpl⟩
      refine ⟨_, rfl, _, rfl, encP (z, (d5 : Nat) - 10, u), rows.map encP, pAt.dp, .lst (SqL.of hPL9) (pls_dp hP9), shaped_encP znm, shaped_pls rnm, _, rfl, ?_⟩
      by_cases hk : keyOf (z, ((d5 : Nat) : Int) - 10, u) ∈ rows.map keyOf
      · rw [(any_encP rows (z, ((d5 : Nat) : Int) - 10, u)).mpr hk]
        exact iteF ⟨_, _, _, rows, ls, pls, rfl, b2.trans b29, s9.le (by omega), hL9, hR9, hPL9, hP9, hD, by omega⟩
      · rw [Bool.eq_false_iff.mpr fun y => hk ((any_encP rows (z, ((d5 : Nat) : Int) - 10, u)).mp y)]
        refine iteT ⟨_, rfl, .inl ⟨rfl, _, SqL.of hPL9⟩, _, rfl, PL, pls, _, rfl, rfl, hPL9, ?_, ?_⟩
        · rw [Paired.length hP9, sizeLine_eq]
          omega
        have dd : ∀ b o, H9 b = some o → b ≠ PL → upd H9 PL (.lst (pls ++ [.ref pl])) b = some o := fun b o e ne => by
          rw [upd_ne ne]
          exact e
        have plPL : pl ≠ PL := fun e => by
          rw [e, hPL9] at hpl
          cases hpl
        refine ⟨_, rfl, .inl ⟨rfl, _, SqL.of (dd _ _ hL9 LPL)⟩, _, rfl, _, rfl, sm100 (Nat.le_of_ble_eq_true rfl), fun a1 na1 => ?_⟩
        have e1 := same_new (o := .tup [V.int u]) na1
        refine ⟨pl, a1, _, _, rfl, rfl, sqT_of (e1 _ _ (dd _ _ hpl plPL)), sqT_of upd_same, (fun y => nomatch y), sm100 (Nat.le_of_ble_eq_true rfl), (fun y => nomatch y), fun _ rw1 nrw => ?_⟩
        have e2 := same_new (o := .tup (rowV (z, (d5 : Nat) - 10, u))) nrw
        have e12 := e1.trans e2
        have hL12 := e12 _ _ (dd _ _ hL9 LPL)
        refine ⟨L, ls, _, rfl, rfl, hL12, ?_, ?_⟩
        · rw [Paired.length hR9, sizeLine_eq]
          omega
        have tupL : ∀ {b : Addr} {xs : List V}, H9 b = some (.tup xs) → b ≠ L ∧ b ≠ PL := fun {b xs} e => ⟨fun y => (by rw [y, hL9] at e; cases e), fun y => (by rw [y, hPL9] at e; cases e)⟩
        have keep : ∀ {b : Addr} {o : HO}, H9 b = some o → b ≠ L → b ≠ PL → upd (upd (upd (upd H9 PL (.lst (pls ++ [.ref pl]))) a1 (.tup [.int u])) rw1 (.tup (rowV (z, (d5 : Nat) - 10, u)))) L (.lst (ls ++ [.ref rw1])) b = some o := fun {b o} e n1 n2 => by
          rw [upd_ne n1]
          exact e12 _ _ (dd _ _ e n2)
        have rwL : rw1 ≠ L := fun y => by
          rw [y, e1 _ _ (dd _ _ hL9 LPL)] at nrw
          cases nrw
        refine ⟨_, _, _, rows ++ [((z, ((d5 : Nat) : Int) - 10, u) : RowD)], ls ++ [.ref rw1], pls ++ [.ref pl], rfl, fun b o ne e => ?_, ?_, upd_same, ?_, ?_, ?_, ⟨?_, ?_, ?_, ?_⟩, ?_⟩
        · have nbL : b ≠ L := ne_of_none e nL
          have nbP : b ≠ PL := ne_of_none e (c1.free nPL)
          exact keep (b29 _ _ ne (b2 _ _ ne e)) nbL nbP
        · obtain ⟨xa, xb, xc, y1, y2⟩ := s9.le (show _ ≤ n + 1 + 4 * (i + 1) by omega)
          exact ⟨xa, xb, xc, keep y1 (Ne.symm Lp) (Ne.symm PLp), y2⟩
        · refine Paired.snoc (Paired.mapP hR9 fun v r y => ?_) ⟨rw1, rfl, ?_⟩
          · obtain ⟨b, e, hb⟩ := y
            exact ⟨b, e, keep hb (tupL hb).1 (tupL hb).2⟩
          · rw [upd_ne rwL]
            exact upd_same
        · rw [upd_ne (Ne.symm LPL)]
          exact e12 _ _ upd_same
        · refine Paired.snoc (Paired.mapP hP9 fun v r y => ?_) ⟨pl, rfl, keep hpl (tupL hpl).1 (tupL hpl).2⟩
          obtain ⟨b, e, hb⟩ := y
          exact ⟨b, e, keep hb (tupL hb).1 (tupL hb).2⟩
        · intro r hr
          rcases List.mem_append.mp hr with h | h
          · exact hD.nm r h
          · rw [List.mem_singleton.mp h]
            exact hzz
        · rw [List.map_append]
          exact List.nodup_append.mpr ⟨hD.nd, List.nodup_cons.mpr ⟨List.not_mem_nil, List.nodup_nil⟩, fun a ha b hb e => hk (by rw [List.mem_singleton.mp hb] at e; exact e ▸ ha)⟩
        · intro r hr
          rcases List.mem_append.mp hr with h | h
          · exact hD.tm r h
          · rw [List.mem_singleton.mp h]
            show -10 ≤ ((d5 : Nat) : Int) - 10 ∧ ((d5 : Nat) : Int) - 10 ≤ 20
            omega
        · intro r hr
          rcases List.mem_append.mp hr with h | h
          · exact hD.vl r h
          · rw [List.mem_singleton.mp h]
            exact uv
        · rw [List.length_append]
          exact Nat.succ_le_succ hl
    · rintro σ H2 ⟨x5, x6, x7, rows, ls, pls, rfl, b2, s2, hL, hR, hPL, hP, hD, hl⟩
      rw [Int.toNat_natCast] at hl s2
      exact ⟨_, rfl, q L ls rows H2 nL hL hR hD (by omega) b2 (s2.le (by omega))⟩
end
end LR
set_option Elab.async false
set_option linter.all false
set_option maxRecDepth 100000
set_option maxHeartbeats 4000000
namespace LR
open PySem L2
open PySem.W (dataLe dataLt alike)
/-! ### sorted lists are told by their members -/
theorem eq_of_srt {α : Type} {r : α → α → Prop} (anti : ∀ a b, r a b → r b a → a = b) : ∀ {l m : List α}, l.Pairwise r → m.Pairwise r → l.Perm m → l = m
  | [], m, _, _, p => (List.Perm.nil_eq p)
  | a :: l, [], _, _, p => absurd p.symm (by intro q; exact absurd (List.Perm.nil_eq q) (by simp))
  | a :: l, b :: m, hl, hm, p => by
    obtain ⟨h1, h2⟩ := List.pairwise_cons.mp hl
    obtain ⟨g1, g2⟩ := List.pairwise_cons.mp hm
    have e : a = b := by
      have ha : a ∈ b :: m := p.mem_iff.mp (List.mem_cons_self ..)
      have hb : b ∈ a :: l := p.mem_iff.mpr (List.mem_cons_self ..)
      rcases List.mem_cons.mp ha with e | ha
      · exact e
      · rcases List.mem_cons.mp hb with e | hb
        · exact e.symm
        · exact anti _ _ (h1 b hb) (g1 a ha)
    subst e
    rw [eq_of_srt anti h2 g2 (List.Perm.cons_inv p)]
theorem perm_of_mem {α : Type} [DecidableEq α] : ∀ {l m : List α}, l.Nodup → m.Nodup → (∀ z, z ∈ l ↔ z ∈ m) → l.Perm m
  | [], m, _, _, h => by
    cases m with
    | nil => exact .refl _
    | cons b m => exact absurd ((h b).mpr (List.mem_cons_self ..)) (by simp)
  | a :: l, m, nl, nm, h => by
    obtain ⟨na, nl'⟩ := List.nodup_cons.mp nl
    have ha : a ∈ m := (h a).mp (List.mem_cons_self ..)
    have p := List.perm_cons_erase ha
    have nm' : (m.erase a).Nodup := nm.erase a
    refine ((perm_of_mem nl' nm' fun z => ?_).cons a).trans p.symm
    constructor
    · intro hz
      exact (List.mem_erase_of_ne (show z ≠ a from fun e => na (by rw [← e]; exact hz))).mpr ((h z).mp (List.mem_cons_of_mem _ hz))
    · intro hz
      have ne : z ≠ a := fun e => by
        rw [e] at hz
        exact List.Nodup.not_mem_erase nm hz
      rcases List.mem_cons.mp ((h z).mpr (List.mem_of_mem_erase hz)) with e | e
      · exact absurd e ne
      · exact e
theorem dlt_enc (a b : RowD) : dataLt (enc a) (enc b) = if a.1 = b.1 then (if a.2.1 = b.2.1 then decide (a.2.2 < b.2.2) else decide (a.2.1 < b.2.1)) else decide (a.1.cps.toList < b.1.cps.toList) := by
  have e0 : PyProof.Rows.lexLt PyProof.Rows.itemOrd (PySem.W.keyToksAll []) (PySem.W.keyToksAll []) = false := PyProof.Rows.lex_irrefl _
  unfold enc
  rw [PySem.W.dataLt_tuple, PySem.W.dataLt_cons (by simp [alike]), PySem.W.dataLt_cons (by simp [alike]), PySem.W.dataLt_cons (by simp [alike]), PySem.W.dataLt_str, PySem.W.dataLt_int, PySem.W.dataLt_int, e0]
  simp only [PyData.eqv, beq_iff_eq]
  by_cases h1 : a.1 = b.1 <;> by_cases h2 : a.2.1 = b.2.1 <;> by_cases h3 : a.2.2 = b.2.2 <;> simp [h1, h2, h3]
theorem le_anti (a b : RowD) (h1 : dataLe false enc a b = true) (h2 : dataLe false enc b a = true) : a = b := by
  have g1 : dataLt (enc b) (enc a) = false := by
    have : (!dataLt (enc b) (enc a)) = true := h1
    simpa using this
  have g2 : dataLt (enc a) (enc b) = false := by
    have : (!dataLt (enc a) (enc b)) = true := h2
    simpa using this
  rw [dlt_enc] at g1 g2
  obtain ⟨a1, a2, a3⟩ := a
  obtain ⟨b1, b2, b3⟩ := b
  simp only at g1 g2
  by_cases e1 : a1 = b1
  · subst e1
    simp only [if_true] at g1 g2
    by_cases e2 : a2 = b2
    · subst e2
      simp only [if_true, decide_eq_false_iff_not] at g1 g2
      have : a3 = b3 := by omega
      rw [this]
    · rw [if_neg (Ne.symm e2)] at g1
      rw [if_neg e2] at g2
      simp only [decide_eq_false_iff_not] at g1 g2
      omega
  · rw [if_neg (Ne.symm e1)] at g1
    rw [if_neg e1] at g2
    simp only [decide_eq_false_iff_not] at g1 g2
    exact absurd (Str.ext (List.le_antisymm (List.not_lt.mp g1) (List.not_lt.mp g2))) e1
theorem srt_pw (l : List RowD) : (srt l).Pairwise fun a b => dataLe false enc a b = true := PySem.W.sort_pairwise (PySem.W.sortLe_total _ _ _) l
theorem srt_eq {l m : List RowD} (p : l.Perm m) : srt l = srt m := eq_of_srt le_anti (srt_pw l) (srt_pw m) (((srt_perm l).trans p).trans (srt_perm m).symm)
theorem srt_inj {l m : List RowD} (h : srt l = srt m) : l.Perm m := (srt_perm l).symm.trans (h ▸ srt_perm m)
theorem rising_pw : ∀ (l : List Str) (p : Str), PyProof.Rows.risingS p l = true → (p :: l).Pairwise fun a b => a.cps.toList ≤ b.cps.toList
  | [], p, _ => List.pairwise_singleton _ _
  | x :: l, p, h => by
    have h' : (!PySem.Spec.ltCps x.cps.toList p.cps.toList && PyProof.Rows.risingS x l) = true := h
    rw [Bool.and_eq_true, PyProof.Rows.ltCps_eq] at h'
    have px : p.cps.toList ≤ x.cps.toList := by
      have : ¬ x.cps.toList < p.cps.toList := by simpa using h'.1
      exact List.not_lt.mp this
    have ih := rising_pw l x h'.2
    refine List.pairwise_cons.mpr ⟨fun y hy => ?_, ih⟩
    rcases List.mem_cons.mp hy with rfl | hy
    · exact px
    · exact List.le_trans px ((List.pairwise_cons.mp ih).1 y hy)
theorem sorted_pw {l : List Str} (h : PyProof.Rows.sortedS l = true) : l.Pairwise fun a b => a.cps.toList ≤ b.cps.toList := by
  cases l with
  | nil => exact List.Pairwise.nil
  | cons x r => exact rising_pw r x h
/-- lists of texts, ascending, each once, with the same members -/
theorem feeds_eq {l m : List Str} (h1 : l.Nodup) (h2 : m.Nodup) (hm : ∀ z, z ∈ l ↔ z ∈ m) (s1 : PyProof.Rows.sortedS l = true) (s2 : PyProof.Rows.sortedS m = true) : l = m :=
  eq_of_srt (fun a b p q => Str.ext (List.le_antisymm p q)) (sorted_pw s1) (sorted_pw s2) (perm_of_mem h1 h2 hm)
end LR
set_option Elab.async false
set_option linter.all false
set_option maxRecDepth 100000
set_option maxHeartbeats 4000000
namespace LR
open PySem L2
open PySem.W (Frag nsIn findIn kitOne)
theorem erasedP {α β : Type} {R : α → β → Prop} {xs : List α} {ys : List β} (h : Paired R xs ys) : ∀ k : Nat, Paired R (xs.eraseIdx k) (ys.eraseIdx k) := by
  induction h with
  | nil => exact fun _ => .nil
  | cons r t ih =>
    intro k
    cases k with
    | zero => exact t
    | succ k => exact .cons r (ih k)
theorem erased_perm {α : Type} : ∀ (l : List α) (i : Nat) (y : α), l[i]? = some y → (y :: l.eraseIdx i).Perm l
  | a :: l, 0, y, h => by
    cases h
    exact .refl _
  | a :: l, i + 1, y, h => (List.Perm.swap a y _).trans ((erased_perm l i y h).cons a)
section
variable {P : Program} {w : World} {K : Frag} {mg : Str → Option Value} {base : Heap} {fP fO : Addr} {dP dO : FuncData}
abbrev sMix : Stmt := top 22
abbrev nMix : List Str := ["_law_source_here", "_law_things", "_law_left", "_law_found", "_law_k"]
theorem scMix : FnScope nMix ["_law_source_here", "_law_things"] (defScope sMix) := ⟨rfl, rfl, rfl, by decide +kernel, rfl, by decide +kernel, by decide +kernel⟩
def spMix : Sp := fun vs H Q _ => ∃ (p l : Addr) (n : Nat) (ls : List V) (rows : List RowD), vs = [.ref p, .ref l] ∧ Src n H p ∧ n < 70000 ∧ l ≠ p ∧ H l = some (.lst ls) ∧ Rws H ls rows ∧ rows.length ≤ 60 ∧
  ∀ (L : Addr) (ls' : List V) (rows' : List RowD) H', H L = none → H' L = some (.lst ls') → Rws H' ls' rows' → rows'.Perm rows → But p H H' → Src (n + 60) H' p → Q (.ref L) H'
theorem ok_mix {f : Addr} {fd : FuncData} {k : Nat} (F : Fun K "_law_mixed" "_law_mixed" sMix f fd) (Z : Hlp K mg fP fO dP dO) : FnOk P w K mg base CX0 (k + 2) f fd ["_law_source_here", "_law_things"] spMix := by
  have GP : FnOk P w K mg base CX0 (k + 1) fP dP ["_law_source_here", "_law_many"] spPick := ok_pick Z.zP.F Z.T
  refine F.ok scMix (fun vs H Q E h => ?_) (fun cdv A outer s H vs Q E hr h => ?_)
  · obtain ⟨p, l, n, ls, rows, rfl, _⟩ := h
    rfl
  · obtain ⟨p, l, n, ls, rows, rfl, hs, hn, lp, hl, hR, h60, q⟩ := h
    refine ⟨_, pss_cons (ps_par (i := 2) (j := 3) rfl scMix.nd rfl rfl (by decide) rfl rfl (pa_cons (pe_callTy call_list_of (by rfl) Z.T2.lst (by decide +kernel) (pa_cons (pv 1) pa_nil)) (pa_cons (pe_lst pa_nil) pa_nil)) rfl)
      (pss_cons (ps_for PassesOwn.never rfl (pi_range1 (by rfl) Z.T2.ran (pa_cons (pe_callB call_len (by rfl) Z.T.len (by decide +kernel) (pa_cons (pv 2) pa_nil)) pa_nil)) (pg_name (i := 4) scMix.nd rfl (.inl rfl))
        (pss_one (ps_expr (pe_bm PySem.F.plainAttrs_list PySem.F.slot_list_append PySem.F.type_list_append mt_append (pv 3) (pa_cons
          (pe_bm PySem.F.plainAttrs_list PySem.F.slot_list_pop PySem.F.type_list_pop mt_popAt (pv 2) (pa_cons (pe_call GP hr rfl Z.zP.g Z.zP.F.kp Z.zP.b .nil pass0 (pa_cons (pv 0) (pa_cons (pe_callB call_len (by rfl) Z.T.len (by decide +kernel) (pa_cons (pv 2) pa_nil)) pa_nil))) pa_nil)) pa_nil)))))
      (pss_one (ps_ret (pv 3)))), ?_⟩
    refine ⟨_, rfl, l, ls, rfl, .inl (SqL.of hl), fun Lf nLf => ⟨sm100 (Nat.le_of_ble_eq_true rfl), fun Fd nFd => ⟨_, _, rfl, ?_⟩⟩⟩
    have c1 : Same H (upd H Lf (.lst ls)) := same_new nLf
    have c2 : Same (upd H Lf (.lst ls)) (upd (upd H Lf (.lst ls)) Fd (.lst [])) := same_new nFd
    have c3 := c1.trans c2
    have Lfp : Lf ≠ p := hs.fresh nLf
    have nFd0 : H Fd = none := c1.free nFd
    have Fdp : Fd ≠ p := hs.fresh nFd0
    have LfFd : Lf ≠ Fd := fun e => by
      rw [← e, upd_same] at nFd
      cases nFd
    have elen : ls.length = rows.length := Paired.length hR
    refine ⟨_, rfl, .ref Lf, ls.length, rfl, .inl ⟨ls, SqL.of (c2 _ _ upd_same), rfl⟩, (ls.length : Int), rfl, by omega, by omega, ?_⟩
    refine for_it (walk_range (lo := 0) (n := (ls.length : Int).toNat)) (fun i σ H2 => ∃ (x4 : Option V) (xs ys : List V) (rx ry : List RowD), σ = [some (.ref p), some (.ref l), some (.ref Lf), some (.ref Fd), x4] ∧ But p H H2 ∧ Src (n + i) H2 p ∧
        H2 Lf = some (.lst xs) ∧ Rws H2 xs rx ∧ H2 Fd = some (.lst ys) ∧ Rws H2 ys ry ∧ (ry ++ rx).Perm rows ∧ ry.length = i)
      ⟨_, ls, [], rows, [], rfl, But.of c3, hs.mono c3, c2 _ _ upd_same, hR.mono c3, upd_same, .nil, .refl _, rfl⟩ (fun _ _ _ _ _ => trivial) ?_ ?_
    · rintro i x σ H3 H2 hi ⟨x4, xs, ys, rx, ry, rfl, b2, s2, h2, r2, g2, q2, pm, li⟩ ⟨rfl, rfl⟩
      have lx : xs.length = rx.length := Paired.length r2
      have tot := pm.length_eq
      rw [List.length_append] at tot
      refine ⟨_, rfl, .inl ⟨rfl, _, SqL.of g2⟩, _, rfl, .inl ⟨rfl, _, SqL.of h2⟩, _, rfl, _, rfl, .ref Lf, xs.length, rfl, .inl ⟨xs, SqL.of h2, rfl⟩, p, xs.length, _, rfl, s2, by omega, by omega, by omega, fun d H4 hd b4 s4 => ?_⟩
      have h4 := b4 _ _ Lfp h2
      have g4 := b4 _ _ Fdp g2
      have r4 := r2.but b4 s2
      have q4 := q2.but b4 s2
      obtain ⟨r, er, ra⟩ := nthP r4 (List.getElem?_eq_getElem hd)
      refine ⟨Lf, xs, (d : Int), d, xs[d], rfl, rfl, h4, by omega, by omega, ?_, List.getElem?_eq_getElem hd, Fd, ys, xs[d], rfl, rfl, ?_, ?_, ?_⟩
      · rw [seqIndex_of (by omega) (by omega)]
        rfl
      · rw [upd_ne (Ne.symm LfFd)]
        exact g4
      · rw [Paired.length q4, sizeLine_eq]
        omega
      have tupN : ∀ {b : Addr} {zs : List V}, H4 b = some (.tup zs) → b ≠ Lf ∧ b ≠ Fd := fun {b zs} e => ⟨fun y => (by rw [y, h4] at e; cases e), fun y => (by rw [y, g4] at e; cases e)⟩
      have keep : ∀ {b : Addr} {o : HO}, H4 b = some o → b ≠ Lf → b ≠ Fd → upd (upd H4 Lf (.lst (xs.eraseIdx d))) Fd (.lst (ys ++ [xs[d]])) b = some o := fun {b o} e n1 n2 => by
        rw [upd_ne n2, upd_ne n1]
        exact e
      have keepR : ∀ {v : V} {r : RowD}, RowAt H4 v r → RowAt (upd (upd H4 Lf (.lst (xs.eraseIdx d))) Fd (.lst (ys ++ [xs[d]]))) v r := fun {v r} ⟨b, e, hb⟩ => ⟨b, e, keep hb (tupN hb).1 (tupN hb).2⟩
      refine ⟨_, xs.eraseIdx d, ys ++ [xs[d]], rx.eraseIdx d, ry ++ [r], rfl, fun b o ne e => ?_, ?_, ?_, ?_, upd_same, ?_, ?_, ?_⟩
      · exact keep (b4 _ _ ne (b2 _ _ ne e)) (ne_of_none e nLf) (ne_of_none e nFd0)
      · exact (s4.upd Lfp).upd Fdp
      · rw [upd_ne LfFd]
        exact upd_same
      · exact Paired.mapP (erasedP r4 d) fun _ _ z => keepR z
      · exact Paired.snoc (Paired.mapP q4 fun _ _ z => keepR z) (keepR ra)
      · refine List.Perm.trans ?_ pm
        rw [List.append_assoc]
        exact (erased_perm rx d r er).append_left ry
      · rw [List.length_append, li]
        rfl
    · rintro σ H2 ⟨x4, xs, ys, rx, ry, rfl, b2, s2, h2, r2, g2, q2, pm, li⟩
      rw [Int.toNat_natCast] at li s2
      have tot := pm.length_eq
      rw [List.length_append, li, elen] at tot
      have e0 : rx = [] := List.eq_nil_of_length_eq_zero (by omega)
      rw [e0, List.append_nil] at pm
      exact ⟨_, rfl, q Fd ys ry H2 nFd0 g2 q2 pm b2 (s2.le (by omega))⟩
end
end LR
set_option Elab.async false
set_option linter.all false
set_option maxRecDepth 100000
set_option maxHeartbeats 4000000
namespace LR
open PySem L2
open PySem.W (Frag nsIn findIn kitOne)
section
variable {P : Program} {w : World} {K : Frag} {mg : Str → Option Value} {base : Heap} {D : TabD}
abbrev sTable : Stmt := top 23
theorem scTable : FnScope ["_law_lines_here"] ["_law_lines_here"] (defScope sTable) := ⟨rfl, rfl, rfl, by decide +kernel, rfl, by decide +kernel, by decide +kernel⟩
def spTable (C : Addr) : Sp := fun vs H Q _ => ∃ (l : Addr) (ls : List V) (rows : List RowD), vs = [.ref l] ∧ H l = some (.lst ls) ∧ Rws H ls rows ∧ Good rows ∧ ∀ x H', Same H H' → H x = none → TabAt C H' x rows → Q (.ref x) H'
theorem ok_table {f : Addr} {fd : FuncData} {k : Nat} (F : Fun K "_law_table" "_law_table" sTable f fd) (B : Tab K mg D) : FnOk P w K mg base CX0 (k + 7) f fd ["_law_lines_here"] (spTable D.C) := by
  have GI : FnR P w K mg base CX0 (k + 5) D.fi (spInit K D.C) := ok_init B.zi B.Z B.c
  have GO : FnOk P w K mg base CX0 (k + 6) D.fo D.dO ["rows"] (spOf K D.C) := ok_of B
  refine F.ok scTable (fun vs H Q E h => ?_) (fun cdv A outer s H vs Q E hr h => ?_)
  · obtain ⟨l, ls, rows, rfl, _⟩ := h
    rfl
  · obtain ⟨l, ls, rows, rfl, hl, hR, hG, q⟩ := h
    refine ⟨_, (pss_cons (ps_if (pt_cmpR op_eq (pe_callB call_len (by rfl) B.Z.T.len (by decide +kernel) (pa_cons (pv 0) pa_nil)) pe_int (nomark _)) (pss_one (ps_ret (pe_makeR0 B.make GI hr rfl B.c.g pass0))) pss_nil)
      (pss_cons (ps_if (pt_cmpR op_eq (pe_callB call_len (by rfl) B.Z.T.len (by decide +kernel) (pa_cons (pv 0) pa_nil)) pe_int (nomark _)) (pss_one (ps_ret (StX.pe_makeR B.make GI hr rfl B.c.g pass0 (pa_cons (pe_ix ix_list (pv 0) pe_int (fun _ _ => rfl)) pa_nil)))) pss_nil)
      (pss_cons (ps_if (pt_cmpR op_eq (pe_callB call_len (by rfl) B.Z.T.len (by decide +kernel) (pa_cons (pv 0) pa_nil)) pe_int (nomark _)) (pss_one (ps_ret (StX.pe_makeR B.make GI hr rfl B.c.g pass0 (pa_cons (pe_ix ix_list (pv 0) pe_int (fun _ _ => rfl)) (pa_cons (pe_ix ix_list (pv 0) pe_int (fun _ _ => rfl)) pa_nil))))) pss_nil)
      (pss_cons (ps_if (pt_cmpR op_eq (pe_callB call_len (by rfl) B.Z.T.len (by decide +kernel) (pa_cons (pv 0) pa_nil)) pe_int (nomark _)) (pss_one (ps_ret (StX.pe_makeR B.make GI hr rfl B.c.g pass0 (pa_cons (pe_ix ix_list (pv 0) pe_int (fun _ _ => rfl)) (pa_cons (pe_ix ix_list (pv 0) pe_int (fun _ _ => rfl)) (pa_cons (pe_ix ix_list (pv 0) pe_int (fun _ _ => rfl)) pa_nil)))))) pss_nil)
      (pss_cons (ps_if (pt_cmpR op_eq (pe_callB call_len (by rfl) B.Z.T.len (by decide +kernel) (pa_cons (pv 0) pa_nil)) pe_int (nomark _)) (pss_one (ps_ret (StX.pe_makeR B.make GI hr rfl B.c.g pass0 (pa_cons (pe_ix ix_list (pv 0) pe_int (fun _ _ => rfl)) (pa_cons (pe_ix ix_list (pv 0) pe_int (fun _ _ => rfl)) (pa_cons (pe_ix ix_list (pv 0) pe_int (fun _ _ => rfl)) (pa_cons (pe_ix ix_list (pv 0) pe_int (fun _ _ => rfl)) pa_nil))))))) pss_nil)
      (pss_cons (ps_if (pt_cmpR op_eq (pe_callB call_len (by rfl) B.Z.T.len (by decide +kernel) (pa_cons (pv 0) pa_nil)) pe_int (nomark _)) (pss_one (ps_ret (StX.pe_makeR B.make GI hr rfl B.c.g pass0 (pa_cons (pe_ix ix_list (pv 0) pe_int (fun _ _ => rfl)) (pa_cons (pe_ix ix_list (pv 0) pe_int (fun _ _ => rfl)) (pa_cons (pe_ix ix_list (pv 0) pe_int (fun _ _ => rfl)) (pa_cons (pe_ix ix_list (pv 0) pe_int (fun _ _ => rfl)) (pa_cons (pe_ix ix_list (pv 0) pe_int (fun _ _ => rfl)) pa_nil)))))))) pss_nil)
      (pss_cons (ps_if (pt_cmpR op_eq (pe_callB call_len (by rfl) B.Z.T.len (by decide +kernel) (pa_cons (pv 0) pa_nil)) pe_int (nomark _)) (pss_one (ps_ret (StX.pe_makeR B.make GI hr rfl B.c.g pass0 (pa_cons (pe_ix ix_list (pv 0) pe_int (fun _ _ => rfl)) (pa_cons (pe_ix ix_list (pv 0) pe_int (fun _ _ => rfl)) (pa_cons (pe_ix ix_list (pv 0) pe_int (fun _ _ => rfl)) (pa_cons (pe_ix ix_list (pv 0) pe_int (fun _ _ => rfl)) (pa_cons (pe_ix ix_list (pv 0) pe_int (fun _ _ => rfl)) (pa_cons (pe_ix ix_list (pv 0) pe_int (fun _ _ => rfl)) pa_nil))))))))) pss_nil)
      (pss_one (ps_ret (pe_smethK (pe_glob (v := .ref D.C) rfl B.c.g rfl) B.cr B.sm GO hr B.bk pass0 (pk_cons (pe_tupleOf (by rfl) B.Z.T.tup (pv 0)) pk_nil))))))))))), ?_⟩
    match ls, hl, hR with
    | [], hl, hR =>
      exact ⟨_, rfl, .ref l, 0, rfl, .inl ⟨_, SqL.of hl, rfl⟩, rfl, _, rfl, iteT (make_tab hR hG q)⟩
    | [a0], hl, hR =>
      exact ⟨_, rfl, .ref l, 1, rfl, .inl ⟨_, SqL.of hl, rfl⟩, rfl, _, rfl, iteF (⟨_, rfl, .ref l, 1, rfl, .inl ⟨_, SqL.of hl, rfl⟩, rfl, _, rfl, iteT (⟨_, rfl, l, _, 0, _, rfl, rfl, SqL.of hl, atI_nat (j := 0) rfl, make_tab hR hG q⟩)⟩)⟩
    | [a0, a1], hl, hR =>
      exact ⟨_, rfl, .ref l, 2, rfl, .inl ⟨_, SqL.of hl, rfl⟩, rfl, _, rfl, iteF (⟨_, rfl, .ref l, 2, rfl, .inl ⟨_, SqL.of hl, rfl⟩, rfl, _, rfl, iteF (⟨_, rfl, .ref l, 2, rfl, .inl ⟨_, SqL.of hl, rfl⟩, rfl, _, rfl, iteT (⟨_, rfl, l, _, 0, _, rfl, rfl, SqL.of hl, atI_nat (j := 0) rfl, ⟨_, rfl, l, _, 1, _, rfl, rfl, SqL.of hl, atI_nat (j := 1) rfl, make_tab hR hG q⟩⟩)⟩)⟩)⟩
    | [a0, a1, a2], hl, hR =>
      exact ⟨_, rfl, .ref l, 3, rfl, .inl ⟨_, SqL.of hl, rfl⟩, rfl, _, rfl, iteF (⟨_, rfl, .ref l, 3, rfl, .inl ⟨_, SqL.of hl, rfl⟩, rfl, _, rfl, iteF (⟨_, rfl, .ref l, 3, rfl, .inl ⟨_, SqL.of hl, rfl⟩, rfl, _, rfl, iteF (⟨_, rfl, .ref l, 3, rfl, .inl ⟨_, SqL.of hl, rfl⟩, rfl, _, rfl, iteT (⟨_, rfl, l, _, 0, _, rfl, rfl, SqL.of hl, atI_nat (j := 0) rfl, ⟨_, rfl, l, _, 1, _, rfl, rfl, SqL.of hl, atI_nat (j := 1) rfl, ⟨_, rfl, l, _, 2, _, rfl, rfl, SqL.of hl, atI_nat (j := 2) rfl, make_tab hR hG q⟩⟩⟩)⟩)⟩)⟩)⟩
    | [a0, a1, a2, a3], hl, hR =>
      exact ⟨_, rfl, .ref l, 4, rfl, .inl ⟨_, SqL.of hl, rfl⟩, rfl, _, rfl, iteF (⟨_, rfl, .ref l, 4, rfl, .inl ⟨_, SqL.of hl, rfl⟩, rfl, _, rfl, iteF (⟨_, rfl, .ref l, 4, rfl, .inl ⟨_, SqL.of hl, rfl⟩, rfl, _, rfl, iteF (⟨_, rfl, .ref l, 4, rfl, .inl ⟨_, SqL.of hl, rfl⟩, rfl, _, rfl, iteF (⟨_, rfl, .ref l, 4, rfl, .inl ⟨_, SqL.of hl, rfl⟩, rfl, _, rfl, iteT (⟨_, rfl, l, _, 0, _, rfl, rfl, SqL.of hl, atI_nat (j := 0) rfl, ⟨_, rfl, l, _, 1, _, rfl, rfl, SqL.of hl, atI_nat (j := 1) rfl, ⟨_, rfl, l, _, 2, _, rfl, rfl, SqL.of hl, atI_nat (j := 2) rfl, ⟨_, rfl, l, _, 3, _, rfl, rfl, SqL.of hl, atI_nat (j := 3) rfl, make_tab hR hG q⟩⟩⟩⟩)⟩)⟩)⟩)⟩)⟩
    | [a0, a1, a2, a3, a4], hl, hR =>
      exact ⟨_, rfl, .ref l, 5, rfl, .inl ⟨_, SqL.of hl, rfl⟩, rfl, _, rfl, iteF (⟨_, rfl, .ref l, 5, rfl, .inl ⟨_, SqL.of hl, rfl⟩, rfl, _, rfl, iteF (⟨_, rfl, .ref l, 5, rfl, .inl ⟨_, SqL.of hl, rfl⟩, rfl, _, rfl, iteF (⟨_, rfl, .ref l, 5, rfl, .inl ⟨_, SqL.of hl, rfl⟩, rfl, _, rfl, iteF (⟨_, rfl, .ref l, 5, rfl, .inl ⟨_, SqL.of hl, rfl⟩, rfl, _, rfl, iteF (⟨_, rfl, .ref l, 5, rfl, .inl ⟨_, SqL.of hl, rfl⟩, rfl, _, rfl, iteT (⟨_, rfl, l, _, 0, _, rfl, rfl, SqL.of hl, atI_nat (j := 0) rfl, ⟨_, rfl, l, _, 1, _, rfl, rfl, SqL.of hl, atI_nat (j := 1) rfl, ⟨_, rfl, l, _, 2, _, rfl, rfl, SqL.of hl, atI_nat (j := 2) rfl, ⟨_, rfl, l, _, 3, _, rfl, rfl, SqL.of hl, atI_nat (j := 3) rfl, ⟨_, rfl, l, _, 4, _, rfl, rfl, SqL.of hl, atI_nat (j := 4) rfl, make_tab hR hG q⟩⟩⟩⟩⟩)⟩)⟩)⟩)⟩)⟩)⟩
    | [a0, a1, a2, a3, a4, a5], hl, hR =>
      exact ⟨_, rfl, .ref l, 6, rfl, .inl ⟨_, SqL.of hl, rfl⟩, rfl, _, rfl, iteF (⟨_, rfl, .ref l, 6, rfl, .inl ⟨_, SqL.of hl, rfl⟩, rfl, _, rfl, iteF (⟨_, rfl, .ref l, 6, rfl, .inl ⟨_, SqL.of hl, rfl⟩, rfl, _, rfl, iteF (⟨_, rfl, .ref l, 6, rfl, .inl ⟨_, SqL.of hl, rfl⟩, rfl, _, rfl, iteF (⟨_, rfl, .ref l, 6, rfl, .inl ⟨_, SqL.of hl, rfl⟩, rfl, _, rfl, iteF (⟨_, rfl, .ref l, 6, rfl, .inl ⟨_, SqL.of hl, rfl⟩, rfl, _, rfl, iteF (⟨_, rfl, .ref l, 6, rfl, .inl ⟨_, SqL.of hl, rfl⟩, rfl, _, rfl, iteT (⟨_, rfl, l, _, 0, _, rfl, rfl, SqL.of hl, atI_nat (j := 0) rfl, ⟨_, rfl, l, _, 1, _, rfl, rfl, SqL.of hl, atI_nat (j := 1) rfl, ⟨_, rfl, l, _, 2, _, rfl, rfl, SqL.of hl, atI_nat (j := 2) rfl, ⟨_, rfl, l, _, 3, _, rfl, rfl, SqL.of hl, atI_nat (j := 3) rfl, ⟨_, rfl, l, _, 4, _, rfl, rfl, SqL.of hl, atI_nat (j := 4) rfl, ⟨_, rfl, l, _, 5, _, rfl, rfl, SqL.of hl, atI_nat (j := 5) rfl, make_tab hR hG q⟩⟩⟩⟩⟩⟩)⟩)⟩)⟩)⟩)⟩)⟩)⟩
    | a0 :: a1 :: a2 :: a3 :: a4 :: a5 :: a6 :: r, hl, hR =>
      have no : ∀ j : Nat, j < 7 → decide (V.int ((a0 :: a1 :: a2 :: a3 :: a4 :: a5 :: a6 :: r).length : Nat) = V.int (j : Nat)) = false := fun j hj => decide_eq_false fun z => by
        have e : (((a0 :: a1 :: a2 :: a3 :: a4 :: a5 :: a6 :: r).length : Nat) : Int) = (j : Nat) := V.int.inj z
        have e2 : (a0 :: a1 :: a2 :: a3 :: a4 :: a5 :: a6 :: r).length = r.length + 7 := rfl
        omega
      refine ⟨_, rfl, .ref l, _, rfl, .inl ⟨_, SqL.of hl, rfl⟩, rfl, false, congrArg V.bl (no 0 (by decide)), iteF (⟨_, rfl, .ref l, _, rfl, .inl ⟨_, SqL.of hl, rfl⟩, rfl, false, congrArg V.bl (no 1 (by decide)), iteF (⟨_, rfl, .ref l, _, rfl, .inl ⟨_, SqL.of hl, rfl⟩, rfl, false, congrArg V.bl (no 2 (by decide)), iteF (⟨_, rfl, .ref l, _, rfl, .inl ⟨_, SqL.of hl, rfl⟩, rfl, false, congrArg V.bl (no 3 (by decide)), iteF (⟨_, rfl, .ref l, _, rfl, .inl ⟨_, SqL.of hl, rfl⟩, rfl, false, congrArg V.bl (no 4 (by decide)), iteF (⟨_, rfl, .ref l, _, rfl, .inl ⟨_, SqL.of hl, rfl⟩, rfl, false, congrArg V.bl (no 5 (by decide)), iteF (⟨_, rfl, .ref l, _, rfl, .inl ⟨_, SqL.of hl, rfl⟩, rfl, false, congrArg V.bl (no 6 (by decide)), iteF ?_⟩)⟩)⟩)⟩)⟩)⟩)⟩
      refine ⟨rfl, _, rfl, .inl ⟨l, _, rfl, SqL.of hl, fun t nt => ?_⟩⟩
      have s1 := same_new (o := .tup (a0 :: a1 :: a2 :: a3 :: a4 :: a5 :: a6 :: r)) nt
      exact ⟨t, _, rows, rfl, sqT_of upd_same, hR.mono s1, hG, fun x H' s2 nx tt => q x H' (s1.trans s2) (s1.free nx) tt⟩
end
end LR
set_option Elab.async false
set_option linter.all false
set_option maxRecDepth 100000
set_option maxHeartbeats 4000000
namespace LR
open PySem L2
/-! ### data that repr shows within its limits -/
structure Rp (d : PyData) (W k : Nat) : Prop where
  lay : d.canLay0 = true
  sh : d.showable = true
  ii : d.intsShort 30 = true
  wt : d.weight ≤ W
  dp : d.depth ≤ k
structure RpA (ds : List PyData) (W k : Nat) : Prop where
  lay : PyData.canLayAll0 ds = true
  sh : PyData.showableAll ds = true
  ii : PyData.intsShortAll 30 ds = true
  wt : PyData.weightAll ds ≤ W
  dp : PyData.depthAll ds ≤ k
theorem Rp.bool (b : Bool) : Rp (.bool b) 0 0 := ⟨rfl, rfl, rfl, Nat.le_refl _, by simp [PyData.depth]⟩
theorem Rp.str {z : Str} (h : PyData.strOk z = true) : Rp (.str z) z.length 0 := ⟨by simpa [PyData.canLay0] using h, rfl, rfl, Nat.le_refl _, by simp [PyData.depth]⟩
theorem Rp.int {i : Int} (h : i.natAbs < 10 ^ 29) : Rp (.int i) 100 0 := by
  have l : i.natAbs.log2 < 97 := by
    by_cases z : i.natAbs = 0
    · rw [z]
      decide
    · exact (Nat.log2_lt z).mpr (Nat.lt_of_lt_of_le h (by decide))
  refine ⟨rfl, ?_, ?_, ?_, by simp [PyData.depth]⟩
  · simp only [PyData.showable, decide_eq_true_eq]
    omega
  · simp only [PyData.intsShort, decide_eq_true_eq]
    have e := int_text_length_le10 (k := 29) (by decide) h
    show (Str.ofString (toString i)).length ≤ 30
    rw [ofString_length]
    exact e
  · simp only [PyData.weight]
    split <;> omega
theorem RpA.nil : RpA [] 0 0 := ⟨rfl, rfl, rfl, Nat.le_refl _, by simp [PyData.depthAll]⟩
theorem RpA.cons {d : PyData} {ds : List PyData} {W V k j : Nat} (h : Rp d W k) (t : RpA ds V j) : RpA (d :: ds) (W + 1 + V) (max k j) := by
  refine ⟨?_, ?_, ?_, ?_, ?_⟩
  · rw [PyData.canLayAll0, h.lay, t.lay]
    rfl
  · rw [PyData.showableAll, h.sh, t.sh]
    rfl
  · rw [PyData.intsShortAll, h.ii, t.ii]
    rfl
  · have := h.wt
    have := t.wt
    rw [PyData.weightAll]
    omega
  · have := h.dp
    have := t.dp
    rw [PyData.depthAll]
    omega
theorem Rp.list {ds : List PyData} {W k : Nat} (h : RpA ds W k) : Rp (.list ds) W (k + 1) :=
  ⟨by rw [PyData.canLay0]; exact h.lay, by rw [PyData.showable]; exact h.sh, by rw [PyData.intsShort]; exact h.ii, by rw [PyData.weight]; exact h.wt, by rw [PyData.depth]; have := h.dp; omega⟩
theorem Rp.tuple {ds : List PyData} {W k : Nat} (h : RpA ds W k) : Rp (.tuple ds) W (k + 1) :=
  ⟨by rw [PyData.canLay0]; exact h.lay, by rw [PyData.showable]; exact h.sh, by rw [PyData.intsShort]; exact h.ii, by rw [PyData.weight]; exact h.wt, by rw [PyData.depth]; have := h.dp; omega⟩
theorem Rp.le {d : PyData} {W V k j : Nat} (h : Rp d W k) (w : W ≤ V) (q : k ≤ j) : Rp d V j := ⟨h.lay, h.sh, h.ii, Nat.le_trans h.wt w, Nat.le_trans h.dp q⟩
theorem RpA.map {α : Type} {f : α → PyData} {W k : Nat} : ∀ {l : List α}, (∀ a ∈ l, Rp (f a) W k) → RpA (l.map f) (l.length * (W + 1)) k
  | [], _ => by
    have z := RpA.nil
    exact ⟨z.lay, z.sh, z.ii, Nat.zero_le _, Nat.le_trans z.dp (Nat.zero_le _)⟩
  | a :: l, h => by
    have z := RpA.cons (h a (List.mem_cons_self ..)) (RpA.map fun b hb => h b (List.mem_cons_of_mem _ hb))
    refine ⟨z.lay, z.sh, z.ii, Nat.le_trans z.wt ?_, Nat.le_trans z.dp (by omega)⟩
    rw [List.length_cons, Nat.succ_mul]
    omega
theorem Rp.fits {d : PyData} {W k : Nat} (h : Rp d W k) (w : W ≤ 100000) : d.shown.length ≤ sizeLine := by
  have z := PyData.shown_le 30 (by decide) d (PyData.leavesShort_of_canLay0 30 d h.lay h.ii)
  have := h.wt
  rw [sizeLine_eq]
  omega
/-- what call_repr asks -/
theorem Rp.all {d : PyData} {W k : Nat} (h : Rp d W k) (w : W ≤ 100000) (q : k ≤ 60) : d.showable = true ∧ d.hasDict = false ∧ d.depth ≤ 60 ∧ d.shown.length ≤ sizeLine :=
  ⟨h.sh, PyData.hasDict_of_canLay d h.lay, Nat.le_trans h.dp q, h.fits w⟩
/-- rows that are shown -/
def Small (rows : List RowD) : Prop := ∀ r ∈ rows, nameS r.1 = true ∧ r.2.1.natAbs < 10 ^ 29 ∧ r.2.2.natAbs < 10 ^ 29
theorem rp_enc {r : RowD} (h : nameS r.1 = true ∧ r.2.1.natAbs < 10 ^ 29 ∧ r.2.2.natAbs < 10 ^ 29) : Rp (enc r) 300 1 := by
  have z := Rp.tuple (RpA.cons (Rp.str (name_ok h.1).1) (RpA.cons (Rp.int h.2.1) (RpA.cons (Rp.int h.2.2) RpA.nil)))
  have := (name_ok h.1).2.2
  exact z.le (by omega) (by decide)
theorem rp_rows {rows : List RowD} (h : Small rows) (l : rows.length ≤ 60) : RpA (rows.map enc) 20000 1 := by
  have z := RpA.map (f := enc) (W := 300) (k := 1) (l := rows) fun r hr => rp_enc (h r hr)
  exact ⟨z.lay, z.sh, z.ii, Nat.le_trans z.wt (by omega), z.dp⟩
end LR
set_option Elab.async false
set_option linter.all false
set_option maxRecDepth 100000
set_option maxHeartbeats 4000000
namespace LR
open PySem L2
open PySem.W (Frag nsIn findIn kitOne)
/-- what a table shows, as data -/
def shownD (rows : List RowD) (ys : List Str) : PyData :=
  .list ([.tuple ((srt rows).map enc), .tuple (ys.map .str), .int (rows.length : Nat), .list ((srt rows).map enc), .str (tabText rows.length), .bool (((rows.length : Nat) : Int) != 0)] ++ [.list ((srt rows).map fun _ => .bool true)])
theorem small_srt {rows : List RowD} (h : Small rows) : Small (srt rows) := fun r hr => h r (mem_srt.mp hr)
theorem tab_ok : ∀ n : Nat, n < 61 → PyData.strOk (tabText n) = true ∧ (tabText n).length ≤ 100 := by decide +kernel
theorem rp_shown {rows : List RowD} {ys : List Str} (h : Small rows) (l : rows.length ≤ 60) (f : FeedsOf ys rows) : Rp (shownD rows ys) 100000 5 := by
  have hl : (srt rows).length ≤ 60 := by
    rw [srt_len]
    exact l
  have a := rp_rows (small_srt h) hl
  have yl : ys.length ≤ 60 := by
    have := nodup_le f.nd fun z hz => (f.mem z).mp hz
    rw [List.length_map] at this
    omega
  have yn : ∀ z ∈ ys, nameS z = true := fun z hz => by
    obtain ⟨r, hr, e⟩ := List.mem_map.mp ((f.mem z).mp hz)
    rw [← e]
    exact (h r hr).1
  have b := RpA.map (f := PyData.str) (W := 8) (k := 0) (l := ys) fun z hz => (Rp.str (name_ok (yn z hz)).1).le (name_ok (yn z hz)).2.2 (Nat.le_refl _)
  have c := RpA.map (f := fun _ : RowD => PyData.bool true) (W := 0) (k := 0) (l := srt rows) fun _ _ => Rp.bool true
  obtain ⟨t1, t2⟩ := tab_ok rows.length (by omega)
  have z := Rp.list (RpA.cons (Rp.tuple a) (RpA.cons (Rp.tuple b) (RpA.cons (Rp.int (i := (rows.length : Nat)) (by omega)) (RpA.cons (Rp.list a) (RpA.cons (Rp.str t1) (RpA.cons (Rp.bool (((rows.length : Nat) : Int) != 0)) (RpA.cons (Rp.list c) RpA.nil)))))))
  exact z.le (by omega) (by decide)
theorem dp_strs {K : Frag} {H : Hp} : ∀ ys : List Str, DpAll K H (ys.map V.str) (ys.map PyData.str)
  | [] => .nil
  | y :: r => .cons (.str y) (dp_strs r)
section
variable {P : Program} {w : World} {K : Frag} {mg : Str → Option Value} {base : Heap} {D : TabD}
abbrev sShow : Stmt := top 24
abbrev nShow : List Str := ["_law_sheet", "_law_told", "_law_line"]
theorem scShow : FnScope nShow ["_law_sheet"] (defScope sShow) := ⟨rfl, rfl, rfl, by decide +kernel, rfl, by decide +kernel, by decide +kernel⟩
def spShow (C : Addr) : Sp := fun vs H Q _ => ∃ a rows, vs = [.ref a] ∧ TabAt C H a rows ∧ Good rows ∧ Small rows ∧ ∀ ys H', Same H H' → FeedsOf ys rows → Q (.str (shownD rows ys).shown) H'
theorem ok_show {f : Addr} {fd : FuncData} {k : Nat} (F : Fun K "_law_shown" "_law_shown" sShow f fd) (B : Tab K mg D) (T2 : Bl2 mg) : FnOkG P w K mg base CX0 (k + 9) f fd ["_law_sheet"] (spShow D.C) := by
  have GR : FnOk P w K mg base CX0 (k + 3) D.fr D.dr ["self"] (spRows D.C) := ok_rows B
  have GF : FnOk P w K mg base CX0 (k + 3) D.ff D.df ["self"] (spFeeds D.C) := ok_feeds B
  have GL : FnOk P w K mg base CX0 (k + 3) D.fl D.dl ["self"] (spLen D.C) := ok_len B
  have GP : FnOk P w K mg base CX0 (k + 3) D.fp D.dp ["self"] (spRep D.C) := ok_rep B
  have GC : FnOk P w K mg base CX0 (k + 3) D.fc D.dc ["self", "value"] (spHas K D.C) := ok_has B
  refine F.okG scShow (fun vs H Q E h => ?_) (fun cdv A outer s H vs Q E hr hg h => ?_)
  · obtain ⟨a, rows, rfl, _⟩ := h
    rfl
  · obtain ⟨a, rows, rfl, hT, hG, hS, q⟩ := h
    have r4 : Room (k + 4) _ := hr.mono (by omega)
    have r3 : Room (k + 3) _ := hr.mono (by omega)
    have r6 : Room (k + 6) _ := hr.mono (by omega)
    refine ⟨_, pss_cons (ps_set (i := 1) scShow.nd rfl (.inl rfl) (pe_lst (pa_cons (pe_prop (pv 0) B.c.cl B.pr GR r4 B.br .nil pass0 rfl) (pa_cons (pe_prop (pv 0) B.c.cl B.pf GF r4 B.bf .nil pass0 rfl)
        (pa_cons (pe_callB (call_lenI B.sl GL r4 B.bl) (by rfl) B.Z.T.len (by decide +kernel) (pa_cons (pv 0) pa_nil)) (pa_cons (pe_callTy call_list_of (by rfl) T2.lst (by decide +kernel) (pa_cons (pe_prop (pv 0) B.c.cl B.pr GR r4 B.br .nil pass0 rfl) pa_nil))
        (pa_cons (pe_callB (call_reprI B.sp GP r4 B.bp) (by rfl) T2.rep (by decide +kernel) (pa_cons (pv 0) pa_nil)) (pa_cons (pe_callTy (call_boolI B.sl B.nb GL r6 B.bl) (by rfl) B.Z.T.boo (by decide +kernel) (pa_cons (pv 0) pa_nil)) pa_nil))))))))
      (pss_one (ps_ret (pe_callB (call_repr (hu64 hr)) (by rfl) T2.rep (by decide +kernel) (pa_cons (pe_op op_cat (pv 1) (pe_lst (pa_cons
        (pe_lc (own := [("_law_line", 2)]) (g := gName 2) (tt := tYes) rfl scShow.nd (pi_tup (pe_prop (pv 0) B.c.cl B.pr GR r4 B.br .nil pass0 rfl)) (blkOk_by (N := nShow) (sc := defScope sShow) (by decide +kernel)) (fun _ _ _ _ _ => pg_name (i := 2) scShow.nd rfl (.inl rfl)) (fun _ _ _ _ _ => pts_nil)
          (fun _ _ _ _ _ => pe_cmpR (op_inI B.sc GC r3 B.bc) (pv 2) (pv 0) rfl)) pa_nil))) pa_nil)))), ?_⟩
    obtain ⟨dx, la, ls, pa, e1, e2, e3, e4⟩ := id hT
    have ln := hG.ln
    refine ⟨_, rfl, a, dx, _, rfl, e1, a, rows, rfl, hT, fun l1 v1 hl1 hv1 => ?_⟩
    refine ⟨_, rfl, a, dx, _, rfl, e1, a, rows, rfl, hT, ln, fun H1 t1 ys s1 nt1 ht1 hf => ?_⟩
    have hT1 := hT.mono s1
    refine ⟨_, rfl, a, dx, _, rfl, s1 _ _ e1, a, rows, rfl, hT1, (rows.length : Nat), rfl, by omega, by omega, ?_⟩
    refine ⟨_, rfl, a, dx, _, rfl, s1 _ _ e1, a, rows, rfl, hT1, fun l2 v2 hl2 hv2 => ⟨l2, v2, rfl, .inr (sqT_of hl2), fun l3 n3 => ?_⟩⟩
    have s3 := same_new (o := .lst v2) n3
    have s13 := s1.trans s3
    have hT3 := hT1.mono s3
    refine ⟨_, rfl, a, dx, _, rfl, s13 _ _ e1, a, rows, rfl, hT3, ln, _, rfl, ?_⟩
    refine ⟨_, rfl, a, dx, _, rfl, s13 _ _ e1, a, rows, rfl, hT3, (rows.length : Nat), rfl, by omega, by omega, sm100 (Nat.le_of_ble_eq_true rfl), fun td ntd => ?_⟩
    have s4 := same_new (o := .lst [V.ref l1, V.ref t1, V.int (rows.length : Nat), V.ref l3, V.str (tabText rows.length), V.bl (((rows.length : Nat) : Int) != 0)]) ntd
    have s14 := s13.trans s4
    have hT4 := hT3.mono s4
    refine ⟨_, rfl, _, rfl, a, dx, _, rfl, s14 _ _ e1, a, rows, rfl, hT4, fun l5 v5 hl5 hv5 => ⟨l5, rfl, ⟨v5, sqT_of hl5⟩, fun D5 n5 => ?_⟩⟩
    have elen : v5.length = (srt rows).length := Paired.length hv5
    refine lc_it (walk_tup (K := K) (a := l5) (xs := v5)) (fun i H5 => Same _ H5 ∧ H5 D5 = some (.lst (((srt rows).take i).map fun _ => V.bl true))) ⟨same_new n5, upd_same⟩ (fun i H5 _ h => sqT_of (h.1 _ _ hl5)) ?_ ?_
    · rintro i x H5 H6 hi ⟨s5, h5⟩ ⟨rfl, hx⟩
      obtain ⟨r, er, ra⟩ := nthP hv5 hx
      have hr1 : r ∈ rows := mem_srt.mp (List.mem_of_getElem? er)
      refine ⟨rfl, yesIf ⟨_, rfl, _, rfl, a, dx, _, rfl, s5 _ _ (s14 _ _ e1), a, rows, x, rfl, hT4.mono s5, hG, .inr ⟨r, ra.mono s5, hG.nm r hr1, fun H7 s7 => ⟨_, rfl, _, s7 _ _ h5, ?_, fun b o e => ?_, ?_⟩⟩⟩⟩
      · rw [List.length_map, List.length_take, sizeLine_eq]
        have := srt_len rows
        omega
      · rw [upd_ne (ne_of_none e n5)]
        exact s7 _ _ (s5 _ _ e)
      · rw [upd_same, take_map_succ er, decide_eq_true hr1]
        rfl
    · rintro H5 ⟨s5, h5⟩
      rw [elen, List.take_length] at h5
      refine ⟨sm100 (Nat.le_of_ble_eq_true rfl), fun l6 n6 => ?_⟩
      have s6 := same_new (o := .lst [V.ref D5]) n6
      have s46 := (s5.trans s6)
      refine ⟨td, l6, _, _, rfl, rfl, s46 _ _ upd_same, upd_same, sm100 (Nat.le_of_ble_eq_true rfl), fun fin nfin => ?_⟩
      have s7 := same_new (o := .lst ([V.ref l1, V.ref t1, V.int (rows.length : Nat), V.ref l3, V.str (tabText rows.length), V.bl (((rows.length : Nat) : Int) != 0)] ++ [V.ref D5])) nfin
      have s47 := s46.trans s7
      have all := s14.trans s47
      obtain ⟨z1, z2, z3, z4⟩ := (rp_shown hS ln hf).all (Nat.le_refl _) (by decide)
      refine ⟨fin, shownD rows ys, rfl, .lst (SqL.of upd_same) ?_, hg, z1, z2, z3, z4, q ys _ all hf⟩
      have g3 : Same H1 _ := s3.trans (s4.trans s47)
      refine .cons (.tup (sqT_of (all _ _ hl1)) (hv1.mono all).dp) (.cons (.tup (sqT_of (g3 _ _ ht1)) (dp_strs ys)) (.cons (.int _) (.cons (.lst (SqL.of ((s4.trans s47) _ _ upd_same)) (hv2.mono (s3.trans (s4.trans s47))).dp) (.cons (.str _) (.cons (.bl _) (.cons (.lst (SqL.of ((s6.trans s7) _ _ h5)) ?_) .nil))))))
      generalize srt rows = l0
      clear h5 elen
      induction l0 with
      | nil => exact .nil
      | cons x l0 ih => exact .cons (.bl true) ih
end
end LR
set_option Elab.async false
set_option linter.all false
set_option maxRecDepth 100000
set_option maxHeartbeats 4000000
namespace LR
open PySem L2
open PySem.W (Frag nsIn findIn kitOne)
theorem ne_nil (l : List RowD) : (!PyData.eqv (.list (l.map enc)) (.list [])) = (((l.length : Nat) : Int) != 0) := by
  cases l with
  | nil => rfl
  | cons a l =>
    have e : (((a :: l).length : Nat) : Int) ≠ 0 := by
      rw [List.length_cons]
      omega
    rw [bne_iff_ne.mpr e]
    rfl
theorem dp_trues {K : Frag} {H : Hp} : ∀ l : List RowD, DpAll K H (l.map fun _ => V.bl true) (l.map fun _ => PyData.bool true)
  | [] => .nil
  | _ :: r => .cons (.bl true) (dp_trues r)
theorem tt60 : ∀ n : Nat, n < 61 → (n : Int).natAbs.log2 < 1920 ∧ ("Table(" : Str).length + (Str.ofString (toString (n : Int))).length ≤ 100 ∧ (("Table(" : Str) ++ Str.ofString (toString (n : Int))).length + (" rows)" : Str).length ≤ 100 := by decide +kernel
section
variable {P : Program} {w : World} {K : Frag} {mg : Str → Option Value} {base : Heap}
abbrev sDue : Stmt := top 25
abbrev nDue : List Str := ["_law_lines_here", "_law_order", "_law_told", "_law_line"]
theorem scDue : FnScope nDue ["_law_lines_here"] (defScope sDue) := ⟨rfl, rfl, rfl, by decide +kernel, rfl, by decide +kernel, by decide +kernel⟩
def spDue : Sp := fun vs H Q _ => ∃ (l : Addr) (ls : List V) (rows : List RowD), vs = [.ref l] ∧ H l = some (.lst ls) ∧ Rws H ls rows ∧ Good rows ∧ Small rows ∧ ∀ ys H', Same H H' → FeedsOf ys rows → Q (.str (shownD rows ys).shown) H'
theorem ok_due {f : Addr} {fd : FuncData} {k : Nat} (F : Fun K "_law_due" "_law_due" sDue f fd) (T : Bl mg) (T2 : Bl2 mg) : FnOkG P w K mg base CX0 (k + 1) f fd ["_law_lines_here"] spDue := by
  refine F.okG scDue (fun vs H Q E h => ?_) (fun cdv A outer s H vs Q E hr hg h => ?_)
  · obtain ⟨l, ls, rows, rfl, _⟩ := h
    rfl
  · obtain ⟨l, ls, rows, rfl, hl, hR, hG, hS, q⟩ := h
    refine ⟨_, pss_cons (ps_set (i := 1) scDue.nd rfl (.inl rfl) (pe_callB (cr_sortR (enc := enc) (R := RowAt) (hu64 hr)) (by rfl) T.srt (by decide +kernel) (pa_cons (pv 0) pa_nil)))
      (pss_cons (ps_set (i := 2) scDue.nd rfl (.inl rfl) (pe_lst (pa_cons (pe_tupleOf (by rfl) T.tup (pv 1)) (pa_cons (pe_tupleOf (by rfl) T.tup (pe_callB (cr_sortTx rfl) (by rfl) T.srt (by decide +kernel) (pa_cons (pe_callTy (cr_setTx rfl) (by rfl) T2.set (by decide +kernel) (pa_cons
          (pe_lc (own := [("_law_line", 3)]) (g := gName 3) (tt := tYes) rfl scDue.nd (pi_list (pv 1)) (blkOk_by (N := nDue) (sc := defScope sDue) (by decide +kernel)) (fun _ _ _ _ _ => pg_name (i := 3) scDue.nd rfl (.inl rfl)) (fun _ _ _ _ _ => pts_nil)
            (fun _ _ _ _ _ => pe_ix (ixTK (K := K)) (pv 3) pe_int (fun _ _ => rfl))) pa_nil)) pa_nil)))
        (pa_cons (pe_callB call_len (by rfl) T.len (by decide +kernel) (pa_cons (pv 1) pa_nil)) (pa_cons (pv 1) pa_nil))))))
      (pss_one (ps_ret (pe_callB (call_repr (hu64 hr)) (by rfl) T2.rep (by decide +kernel) (pa_cons (pe_op op_cat (pv 2) (pe_lst (pa_cons
        (pe_op op_add_str (pe_op op_add_str pe_str (pe_callTy call_str_int (by rfl) T.str (by decide +kernel) (pa_cons (pe_callB call_len (by rfl) T.len (by decide +kernel) (pa_cons (pv 1) pa_nil)) pa_nil))) pe_str)
        (pa_cons (pe_cmpR (op_neD (hu64 hr)) (pv 1) (pe_lst pa_nil) (nomark _))
        (pa_cons (pe_lc (own := [("_law_line", 3)]) (g := gName 3) (tt := tYes) rfl scDue.nd (pi_list (pv 1)) (blkOk_by (N := nDue) (sc := defScope sDue) (by decide +kernel)) (fun _ _ _ _ _ => pg_name (i := 3) scDue.nd rfl (.inl rfl)) (fun _ _ _ _ _ => pts_nil)
            (fun _ _ _ _ _ => pe_bl)) pa_nil))))) pa_nil))))), ?_⟩
    have ln := hG.ln
    have sl := srt_len rows
    refine ⟨_, rfl, l, ls, rows, rfl, .inl (SqL.of hl), hR, fun v b h => h.dp, enc_alike rows, enc_sort rows, fun b _ => enc_depth b, fun vs o no hv => ?_⟩
    have hv : Rws H vs (srt rows) := hv
    have s1 := same_new (o := .lst vs) no
    have hv1 := Rws.mono hv s1
    have vl : vs.length = rows.length := (Paired.length hv).trans sl
    refine ⟨_, rfl, .inl ⟨o, vs, rfl, SqL.of upd_same, fun t1 n1 => ?_⟩⟩
    have s2 := same_new (o := .tup vs) n1
    refine ⟨_, rfl, o, rfl, ⟨_, SqL.of (s2 _ _ upd_same)⟩, fun D nD => ?_⟩
    refine lc_it (walk_list (K := K) (a := o) (xs := vs)) (fun i H5 => Same _ H5 ∧ H5 D = some (.lst ((((srt rows).take i).map (·.1)).map V.str))) ⟨same_new nD, upd_same⟩ (fun i H5 _ h => SqL.of (h.1 _ _ (s2 _ _ upd_same))) ?_ ?_
    · rintro i x H5 H6 hi ⟨s5, h5⟩ ⟨rfl, hx⟩
      obtain ⟨r, er, ra⟩ := nthP hv1 hx
      obtain ⟨b, rfl, hb⟩ := (ra.mono s2).mono s5
      refine ⟨rfl, yesIf ⟨_, rfl, b, _, 0, .str r.1, rfl, rfl, sqT_of hb, atI_nat (j := 0) rfl, _, h5, ?_, fun b o e => ?_, ?_⟩⟩
      · rw [List.length_map, List.length_map, List.length_take, sizeLine_eq]
        omega
      · rw [upd_ne (ne_of_none e nD)]
        exact s5 _ _ e
      · rw [upd_same, take_map_succ er, List.map_append]
        rfl
    · rintro H5 ⟨s5, h5⟩
      rw [Paired.length hv, List.take_length] at h5
      refine ⟨D, (srt rows).map (·.1), rfl, SqL.of h5, ?_, fun st nst => ⟨st, _, rfl, upd_same, ?_, fun ys p3 nd mem so np3 => .inl ⟨p3, _, rfl, SqL.of upd_same, fun t3 n3 => ?_⟩⟩⟩
      · rw [List.length_map]
        omega
      · rw [List.length_map]
        omega
      have hf : FeedsOf ys rows := ⟨nd, fun z => (mem z).trans ((srt_perm rows).map (·.1)).mem_iff, so⟩
      have s6 := same_new (o := TxO P w st ((srt rows).map (·.1))) nst
      have s7 := same_new (o := .lst (ys.map V.str)) np3
      have s8 := same_new (o := .tup (ys.map V.str)) n3
      have s28 := s2.trans (s5.trans (s6.trans (s7.trans s8)))
      refine ⟨_, rfl, .ref o, vs.length, rfl, .inl ⟨vs, SqL.of (s28 _ _ upd_same), rfl⟩, _, rfl, sm100 (Nat.le_of_ble_eq_true rfl), fun td ntd => ?_⟩
      have s9 := same_new (o := .lst [V.ref t1, V.ref t3, V.int (vs.length : Nat), V.ref o]) ntd
      have s29 := s28.trans s9
      obtain ⟨y1, y2, y3⟩ := tt60 vs.length (by omega)
      refine ⟨_, rfl, _, rfl, .ref o, vs.length, rfl, .inl ⟨vs, SqL.of (s29 _ _ upd_same), rfl⟩, _, rfl, y1, _, _, rfl, rfl, sm100 y2, _, _, rfl, rfl, sm100 y3, ?_⟩
      refine ⟨_, rfl, sm100 (Nat.le_of_ble_eq_true rfl), fun e0 ne0 => ?_⟩
      have sA := same_new (o := .lst []) ne0
      have s2A := s29.trans sA
      have hvA : Rws _ vs (srt rows) := hv1.mono s2A
      refine ⟨.list ((srt rows).map enc), .list [], .lst (SqL.of (s2A _ _ upd_same)) hvA.dp, .lst (SqL.of upd_same) .nil, shaped_lst (srt_names hG.nm), rfl, ?_⟩
      rw [ne_nil, sl]
      refine ⟨_, rfl, o, rfl, ⟨_, SqL.of (s2A _ _ upd_same)⟩, fun D2 n2 => ?_⟩
      refine lc_it (walk_list (K := K) (a := o) (xs := vs)) (fun i H6 => Same _ H6 ∧ H6 D2 = some (.lst (((srt rows).take i).map fun _ => V.bl true))) ⟨same_new n2, upd_same⟩ (fun i H6 _ h => SqL.of (h.1 _ _ (s2A _ _ upd_same))) ?_ ?_
      · rintro i x H6 H7 hi ⟨s6', h6⟩ ⟨rfl, hx⟩
        obtain ⟨r, er, ra⟩ := nthP hv1 hx
        refine ⟨rfl, yesIf ⟨_, h6, ?_, fun b o e => ?_, ?_⟩⟩
        · rw [List.length_map, List.length_take, sizeLine_eq]
          omega
        · rw [upd_ne (ne_of_none e n2)]
          exact s6' _ _ e
        · rw [upd_same, take_map_succ er]
      · rintro H6 ⟨sB, h6⟩
        rw [Paired.length hv, List.take_length] at h6
        refine ⟨sm100 (Nat.le_of_ble_eq_true rfl), fun l9 n9 => ?_⟩
        have sC := same_new (o := .lst [V.str (("Table(" : Str) ++ Str.ofString (toString (vs.length : Int)) ++ (" rows)" : Str)), V.bl (((rows.length : Nat) : Int) != 0), V.ref D2]) n9
        have sBC := sB.trans sC
        refine ⟨td, l9, _, _, rfl, rfl, sBC _ _ (sA _ _ upd_same), upd_same, sm100 (Nat.le_of_ble_eq_true rfl), fun fin nfin => ?_⟩
        have sD := same_new (o := .lst ([V.ref t1, V.ref t3, V.int (vs.length : Nat), V.ref o] ++ [V.str (("Table(" : Str) ++ Str.ofString (toString (vs.length : Int)) ++ (" rows)" : Str)), V.bl (((rows.length : Nat) : Int) != 0), V.ref D2])) nfin
        have sCD := sBC.trans sD
        have s2D := s2A.trans sCD
        have s1D := s1.trans s2D
        have s3D := (s5.trans (s6.trans (s7.trans s8))).trans (s9.trans (sA.trans sCD))
        obtain ⟨z1, z2, z3, z4⟩ := (rp_shown hS ln hf).all (Nat.le_refl _) (by decide)
        refine ⟨fin, shownD rows ys, rfl, .lst (SqL.of upd_same) ?_, hg, z1, z2, z3, z4, q ys _ s1D hf⟩
        have hvD : Rws _ vs (srt rows) := hv.mono s1D
        have eT : tabText rows.length = ("Table(" : Str) ++ Str.ofString (toString (vs.length : Int)) ++ (" rows)" : Str) := by
          rw [vl]
          rfl
        rw [eT]
        exact .cons (.tup (sqT_of (s3D _ _ upd_same)) hvD.dp) (.cons (.tup (sqT_of ((s9.trans (sA.trans sCD)) _ _ upd_same)) (dp_strs ys)) (.cons (by rw [← vl]; exact .int _) (.cons (.lst (SqL.of (s2D _ _ upd_same)) hvD.dp) (.cons (.str _) (.cons (.bl _) (.cons (.lst (SqL.of ((sC.trans sD) _ _ h6)) (dp_trues _)) .nil))))))
end
end LR
set_option Elab.async false
set_option linter.all false
set_option maxRecDepth 100000
set_option maxHeartbeats 4000000
namespace LR
open PySem L2
open PySem.W (Frag nsIn findIn kitOne)
/-- no row of the table -/
def Odd (K : Frag) (rows : List RowD) (H : Hp) (x : V) : Prop := KRow K H x false ∨ ∃ r, RowAt H x r ∧ nameS r.1 = true ∧ r ∉ rows
theorem Odd.mono {K : Frag} {rows : List RowD} {H H' : Hp} {x : V} (h : Odd K rows H x) (s : Same H H') : Odd K rows H' x := by
  rcases h with h | ⟨r, h1, h2⟩
  · exact .inl (h.mono s)
  · exact .inr ⟨r, h1.mono s, h2⟩
theorem not_A {z : Str} : nameS (z ++ ("A" : Str)) = false := by
  rw [Bool.eq_false_iff]
  intro h
  obtain ⟨c, cs, e, hc, hs, _⟩ := name_to h
  rw [cps_append] at e
  have h65 : (65 : Nat) ∈ c :: cs := by
    rw [← e]
    exact List.mem_append_right _ (by decide)
  rcases List.mem_cons.mp h65 with q | q
  · rw [← q] at hc
    exact absurd hc (by decide +kernel)
  · exact absurd (hs 65 q) (by decide +kernel)
theorem row_false {K : Frag} {H : Hp} {a : Addr} {x y z : V} {b c d : Bool} (h : H a = some (.tup [x, y, z])) (h1 : KName K H x b) (h2 : KInt K H y c) (h3 : KInt K H z d) (e : (b && c && d) = false) : KRow K H (.ref a) false := by
  have z := KRow.row (sqT_of h) h1 h2 h3
  rwa [e] at z
theorem one_key {rows : List RowD} (nd : (rows.map keyOf).Nodup) {a b : RowD} (ha : a ∈ rows) (hb : b ∈ rows) (e : keyOf a = keyOf b) : a = b := by
  induction rows with
  | nil => cases ha
  | cons c rows ih =>
    rw [List.map_cons] at nd
    obtain ⟨n1, n2⟩ := List.nodup_cons.mp nd
    rcases List.mem_cons.mp ha with ea | ha
    · rcases List.mem_cons.mp hb with eb | hb
      · rw [ea, eb]
      · rw [ea] at e
        exact absurd (List.mem_map.mpr ⟨b, hb, e.symm⟩) n1
    · rcases List.mem_cons.mp hb with eb | hb
      · rw [eb] at e
        exact absurd (List.mem_map.mpr ⟨a, ha, e⟩) n1
      · exact ih n2 ha hb
section
variable {P : Program} {w : World} {K : Frag} {mg : Str → Option Value} {base : Heap}
abbrev sOdd : Stmt := top 26
theorem scOdd : FnScope ["_law_lines_here", "_law_found", "_law_line"] ["_law_lines_here"] (defScope sOdd) := ⟨rfl, rfl, rfl, by decide +kernel, rfl, by decide +kernel, by decide +kernel⟩
def spOdd (K : Frag) : Sp := fun vs H Q _ => ∃ (l : Addr) (ls : List V) (rows : List RowD) (zs : List Str), vs = [.ref l] ∧ H l = some (.lst ls) ∧ Rws H ls rows ∧ Good rows ∧ Drawn zs rows ∧ ∀ (o : Addr) (xs : List V) H', Same H H' → H' o = some (.lst xs) → xs.length ≤ 60 → (∀ x ∈ xs, Odd K rows H' x) → Q (.ref o) H'
theorem ok_odd {f : Addr} {fd : FuncData} {k : Nat} (F : Fun K "_law_strangers" "_law_strangers" sOdd f fd) (T2 : Bl2 mg) : FnOk P w K mg base CX0 (k + 1) f fd ["_law_lines_here"] (spOdd K) := by
  refine F.ok scOdd (fun vs H Q E h => ?_) (fun cdv A outer s H vs Q E hr h => ?_)
  · obtain ⟨l, ls, rows, zs, rfl, _⟩ := h
    rfl
  · obtain ⟨l, ls, rows, zs, rfl, hl, hR, hG, hD, q⟩ := h
    refine ⟨_, pss_cons (ps_set (i := 1) scOdd.nd rfl (.inl rfl) (pe_lst (pa_cons pe_non (pa_cons pe_int (pa_cons pe_str (pa_cons (pe_tup pa_nil) (pa_cons (pe_lst pa_nil) (pa_cons pe_dnewK (pa_cons (pe_tup (pa_cons pe_str pa_nil)) (pa_cons (pe_lst (pa_cons pe_str (pa_cons pe_int (pa_cons pe_int pa_nil))))
        (pa_cons (pe_tup (pa_cons (pe_lst (pa_cons pe_str pa_nil)) (pa_cons pe_int (pa_cons pe_int pa_nil)))) (pa_cons (pe_tup (pa_cons pe_str (pa_cons pe_dnewK (pa_cons pe_int pa_nil)))) pa_nil))))))))))))
      (pss_cons (ps_for PassesOwn.never rfl (pi_list (pe_slice sl_list (pv 0) po_none (po_some pe_int))) (pg_name (i := 2) scOdd.nd rfl (.inl rfl))
        (pss_cons (ps_set (i := 1) scOdd.nd rfl (.inl rfl) (pe_op op_cat (pv 1) (pe_lst (pa_cons (pe_callTy call_list_of (by rfl) T2.lst (by decide +kernel) (pa_cons (pv 2) pa_nil)) (pa_cons (pe_slice sl_tup (pv 2) po_none (po_some pe_int)) (pa_cons (pe_op op_catT (pv 2) (pe_tup (pa_cons pe_int pa_nil)))
          (pa_cons (pe_tup (pa_cons (pe_ix ix_tup (pv 2) pe_int (fun _ _ => rfl)) (pa_cons (pe_ix ix_tup (pv 2) pe_int (fun _ _ => rfl)) (pa_cons (pe_op op_add (pe_ix ix_tup (pv 2) pe_int (fun _ _ => rfl)) pe_int) pa_nil))))
          (pa_cons (pe_tup (pa_cons (pe_ix ix_tup (pv 2) pe_int (fun _ _ => rfl)) (pa_cons (pe_ix ix_tup (pv 2) pe_int (fun _ _ => rfl)) (pa_cons pe_non pa_nil)))) pa_nil))))))))
        (pss_one (ps_set (i := 1) scOdd.nd rfl (.inl rfl) (pe_op op_cat (pv 1) (pe_lst
          (pa_cons (pe_tup (pa_cons (pe_ix ix_tup (pv 2) pe_int (fun _ _ => rfl)) (pa_cons (pe_op op_add (pe_ix ix_tup (pv 2) pe_int (fun _ _ => rfl)) pe_int) (pa_cons (pe_ix ix_tup (pv 2) pe_int (fun _ _ => rfl)) pa_nil))))
          (pa_cons (pe_tup (pa_cons (pe_op op_add_str (pe_upper (pe_ix ix_tup (pv 2) pe_int (fun _ _ => rfl))) pe_str) (pa_cons (pe_ix ix_tup (pv 2) pe_int (fun _ _ => rfl)) (pa_cons (pe_ix ix_tup (pv 2) pe_int (fun _ _ => rfl)) pa_nil)))) pa_nil))))))))
      (pss_one (ps_ret (pv 1)))), ?_⟩
    have ok : ∀ {n : Nat}, n.ble 100 = true → n ≤ sizeLine := fun h => sm100 (Nat.le_of_ble_eq_true h)
    refine ⟨ok rfl, fun a3 n3 => ⟨ok rfl, fun a4 n4 => fun a5 n5 => ⟨ok rfl, fun a6 n6 => ⟨ok rfl, fun a7 n7 => ⟨ok rfl, fun a8 n8 => ⟨ok rfl, fun a9 n9 => fun b9 m9 => ⟨ok rfl, fun c9 k9 => ⟨ok rfl, fun Fd nFd => ?_⟩⟩⟩⟩⟩⟩⟩⟩
    have u3 := same_new (o := .tup []) n3
    have u4 := same_new (o := .lst []) n4
    have u5 := same_new (o := .dK []) n5
    have u6 := same_new (o := .tup [V.str "a"]) n6
    have u7 := same_new (o := .lst [V.str "a", V.int 1, V.int 2]) n7
    have u8 := same_new (o := .lst [V.str "a"]) n8
    have u9 := same_new (o := .tup [V.ref a8, V.int 1, V.int 2]) n9
    have v9 := same_new (o := .dK []) m9
    have w9 := same_new (o := .tup [V.str "a", V.ref b9, V.int 1]) k9
    have x9 := same_new (o := .lst [V.non, V.int 0, V.str "", V.ref a3, V.ref a4, V.ref a5, V.ref a6, V.ref a7, V.ref a9, V.ref c9]) nFd
    have tw := w9.trans x9
    have tv := v9.trans tw
    have t9 := u9.trans tv
    have t8 := u8.trans t9
    have t7 := u7.trans t8
    have t6 := u6.trans t7
    have t5 := u5.trans t6
    have t4 := u4.trans t5
    have t3 := u3.trans t4
    have nA : nameS ("a" : Str) = true := by decide +kernel
    have kA : ∀ {H' : Hp}, KName K H' (.str "a") true := fun {H'} => by
      have z : KName K H' (.str ("a" : Str)) (nameS ("a" : Str)) := .str _ (ok rfl)
      rwa [nA] at z
    refine ⟨_, rfl, 2, rfl, l, ls, rfl, SqL.of (t3 _ _ hl), fun c nc => ⟨c, rfl, ⟨_, SqL.of upd_same⟩, ?_⟩⟩
    have sc := same_new (o := .lst (cutV ls none (some 2))) nc
    have cut2 : (cutV ls none (some 2)).length ≤ 2 := by
      unfold cutV
      have e1 : HT.sIx ls.length 0 none = 0 := rfl
      rw [List.length_take, e1]
      have e2 : HT.sIx ls.length ls.length (some 2) ≤ 2 := by
        unfold HT.sIx
        simp
        omega
      omega
    have isRow : ∀ x ∈ cutV ls none (some 2), ∃ r ∈ rows, RowAt H x r := fun x hx => by
      have hx' : x ∈ ls := List.mem_of_mem_drop (List.mem_of_mem_take hx)
      obtain ⟨i, hi⟩ := List.getElem?_of_mem hx'
      obtain ⟨r, er, ra⟩ := nthP hR hi
      exact ⟨r, List.mem_of_getElem? er, ra⟩
    refine for_it (walk_list (K := K) (a := c) (xs := cutV ls none (some 2))) (fun i σ H2 => ∃ (o : Addr) (x2 : Option V) (xs : List V), σ = [some (.ref l), some (.ref o), x2] ∧ Same (upd _ c (.lst (cutV ls none (some 2)))) H2 ∧ H2 o = some (.lst xs) ∧ xs.length ≤ 10 + 7 * i ∧ ∀ x ∈ xs, Odd K rows H2 x)
      ⟨Fd, _, _, rfl, .refl _, sc _ _ upd_same, Nat.le_refl _, fun x hx => Odd.mono ?_ sc⟩ (fun i σ H2 _ ⟨_, _, _, _, h, _⟩ => SqL.of (h _ _ upd_same)) ?_ ?_
    · simp only [List.mem_cons, List.not_mem_nil, or_false] at hx
      rcases hx with rfl | rfl | rfl | rfl | rfl | rfl | rfl | rfl | rfl | rfl
      · exact .inl (.oth (.of (.base .non) (by decide +kernel)))
      · exact .inl (.oth (.of (.base (.int 0)) (by decide +kernel)))
      · exact .inl (.oth (.of (.base (.str _)) (by decide +kernel)))
      · exact .inl (.len (sqT_of (t4 _ _ upd_same)) (by decide))
      · exact .inl (.oth (.of (.base (.lst (t5 _ _ upd_same))) (by decide +kernel)))
      · exact .inl (.oth (.of (.base (.dK (t6 _ _ upd_same))) (by decide +kernel)))
      · exact .inl (.len (sqT_of (t7 _ _ upd_same)) (by show (1 : Nat) ≠ 3; decide))
      · exact .inl (.oth (.of (.base (.lst (t8 _ _ upd_same))) (by decide +kernel)))
      · exact .inl (row_false (tv _ _ upd_same) (.oth (.of (.base (.lst (t9 _ _ upd_same))) (by decide +kernel))) (.int 1) (.int 2) rfl)
      · exact .inl (row_false (x9 _ _ upd_same) kA (.oth (.of (.base (.dK (tw _ _ upd_same))) (by decide +kernel))) (.int 1) rfl)
    · rintro i x σ H3 H2 hi ⟨o, x2, xs, rfl, s2, h2, l2, od⟩ ⟨rfl, hx⟩
      obtain ⟨r, rr, ra⟩ := isRow x (List.mem_of_getElem? hx)
      obtain ⟨a, rfl, ha⟩ := ((ra.mono t3).mono sc).mono s2
      have i2 : i < 2 := by omega
      have nmr := hG.nm r rr
      have three : ∀ {H' : Hp}, Same H2 H' → SqT K H' a (rowV r) := fun h => sqT_of (h _ _ ha)
      refine ⟨_, rfl, _, rfl, a, _, rfl, .inr (three (.refl _)), fun b1 m1 => ?_⟩
      have y1 := same_new (o := .lst (rowV r)) m1
      refine ⟨_, rfl, 2, rfl, a, _, rfl, three y1, (by show ¬ (HT.sIx 3 0 none = 0 ∧ HT.sIx 3 3 (some 2) = 3); decide), fun b2 m2 => ?_⟩
      have y2 := same_new (o := .tup [V.str r.1, V.int r.2.1]) m2
      refine ⟨_, rfl, ok rfl, fun b3 m3 => ?_⟩
      have y3 := same_new (o := .tup [V.int 0]) m3
      have z3 := y1.trans (y2.trans y3)
      refine ⟨a, b3, _, _, rfl, rfl, three z3, sqT_of upd_same, (fun y => nomatch y), ok rfl, (fun y => nomatch y), fun _ b4 m4 => ?_⟩
      have y4 := same_new (o := .tup (rowV r ++ [V.int 0])) m4
      have z4 := z3.trans y4
      refine ⟨_, rfl, a, _, 0, _, rfl, rfl, three z4, atI_nat (j := 0) rfl, _, rfl, a, _, 1, _, rfl, rfl, three z4, atI_nat (j := 1) rfl, _, rfl, a, _, 2, _, rfl, rfl, three z4, atI_nat (j := 2) rfl, _, _, rfl, rfl, ok rfl, fun b5 m5 => ?_⟩
      have y5 := same_new (o := .tup [V.str r.1, V.int r.2.1, V.int (r.2.2 + 1)]) m5
      have z5 := z4.trans y5
      refine ⟨_, rfl, a, _, 0, _, rfl, rfl, three z5, atI_nat (j := 0) rfl, _, rfl, a, _, 1, _, rfl, rfl, three z5, atI_nat (j := 1) rfl, ok rfl, fun b6 m6 => ?_⟩
      have y6 := same_new (o := .tup [V.str r.1, V.int r.2.1, V.non]) m6
      have z6 := z5.trans y6
      refine ⟨ok rfl, fun b7 m7 => ?_⟩
      have y7 := same_new (o := .lst [V.ref b1, V.ref b2, V.ref b4, V.ref b5, V.ref b6]) m7
      have z7 := z6.trans y7
      refine ⟨o, b7, _, _, rfl, rfl, z7 _ _ h2, upd_same, ?_, fun o8 m8 => ?_⟩
      · show xs.length + 5 ≤ sizeLine
        exact sm100 (by omega)
      have y8 := same_new (o := .lst (xs ++ [V.ref b1, V.ref b2, V.ref b4, V.ref b5, V.ref b6])) m8
      have z8 := z7.trans y8
      have l8 : r.1.length ≤ 8 := (name_ok nmr).2.2
      have lu := PyProof.Rows.len_upper r.1
      refine ⟨_, rfl, _, rfl, a, _, 0, _, rfl, rfl, three z8, atI_nat (j := 0) rfl, _, rfl, a, _, 1, _, rfl, rfl, three z8, atI_nat (j := 1) rfl, _, _, rfl, rfl, _, rfl, a, _, 2, _, rfl, rfl, three z8, atI_nat (j := 2) rfl, ok rfl, fun b9' m9' => ?_⟩
      have y9 := same_new (o := .tup [V.str r.1, V.int (r.2.1 + 1000), V.int r.2.2]) m9'
      have z9 := z8.trans y9
      refine ⟨_, rfl, a, _, 0, _, rfl, rfl, three z9, atI_nat (j := 0) rfl, ⟨_, rfl⟩, r.1, rfl, rfl, by omega, _, _, rfl, rfl, ?_, _, rfl, a, _, 1, _, rfl, rfl, three z9, atI_nat (j := 1) rfl, _, rfl, a, _, 2, _, rfl, rfl, three z9, atI_nat (j := 2) rfl, ok rfl, fun b10 m10 => ?_⟩
      · show (Txt.upper r.1).length + 1 ≤ sizeLine
        exact sm100 (by omega)
      have y10 := same_new (o := .tup [V.str (Txt.upper r.1 ++ ("A" : Str)), V.int r.2.1, V.int r.2.2]) m10
      refine ⟨ok rfl, fun b11 m11 => ?_⟩
      have y11 := same_new (o := .lst [V.ref b9', V.ref b10]) m11
      have z11 := z9.trans (y10.trans y11)
      refine ⟨o8, b11, _, _, rfl, rfl, (y9.trans (y10.trans y11)) _ _ upd_same, upd_same, ?_, fun o12 m12 => ?_⟩
      · show (xs ++ [V.ref b1, V.ref b2, V.ref b4, V.ref b5, V.ref b6]).length + 2 ≤ sizeLine
        rw [List.length_append]
        exact sm100 (show xs.length + 5 + 2 ≤ 100 by omega)
      have y12 := same_new (o := .lst (xs ++ [V.ref b1, V.ref b2, V.ref b4, V.ref b5, V.ref b6] ++ [V.ref b9', V.ref b10])) m12
      have q11 := y11.trans y12
      have q10 := y10.trans q11
      have q9 := y9.trans q10
      have q8 := y8.trans q9
      have q7 := y7.trans q8
      have q6 := y6.trans q7
      have q5 := y5.trans q6
      have q4 := y4.trans q5
      have q3 := y3.trans q4
      have q2 := y2.trans q3
      have zz := z11.trans y12
      refine ⟨o12, _, xs ++ [V.ref b1, V.ref b2, V.ref b4, V.ref b5, V.ref b6] ++ [V.ref b9', V.ref b10], rfl, s2.trans zz, upd_same, ?_, fun x hx => ?_⟩
      · rw [List.length_append, List.length_append]
        show xs.length + 5 + 2 ≤ _
        omega
      · rcases List.mem_append.mp hx with hx | hx
        · rcases List.mem_append.mp hx with hx | hx
          · exact (od x hx).mono zz
          · simp only [List.mem_cons, List.not_mem_nil, or_false] at hx
            rcases hx with rfl | rfl | rfl | rfl | rfl
            · exact .inl (.oth (.of (.base (.lst (q2 _ _ upd_same))) (by decide +kernel)))
            · exact .inl (.len (sqT_of (q3 _ _ upd_same)) (by show (2 : Nat) ≠ 3; decide))
            · exact .inl (.len (sqT_of (q5 _ _ upd_same)) (by show (4 : Nat) ≠ 3; decide))
            · refine .inr ⟨(r.1, r.2.1, r.2.2 + 1), ⟨b5, rfl, q6 _ _ upd_same⟩, nmr, fun c => ?_⟩
              have e := one_key hG.nd c rr rfl
              have e2 : r.2.2 + 1 = r.2.2 := congrArg (fun z : RowD => z.2.2) e
              omega
            · exact .inl (row_false (q7 _ _ upd_same) (.str r.1 (sm100 (by omega))) (.int _) (.oth (.of (.base .non) (by decide +kernel))) (by simp))
        · simp only [List.mem_cons, List.not_mem_nil, or_false] at hx
          rcases hx with rfl | rfl
          · refine .inr ⟨(r.1, r.2.1 + 1000, r.2.2), ⟨b9', rfl, q10 _ _ upd_same⟩, nmr, fun c => ?_⟩
            have h1 := (hD.tm _ c).2
            have h2 := (hD.tm r rr).1
            have h1' : r.2.1 + 1000 ≤ 20 := h1
            omega
          · have ll : (Txt.upper r.1 ++ ("A" : Str)).length ≤ sizeLine := by
              have e : (Txt.upper r.1 ++ ("A" : Str)).length = (Txt.upper r.1).length + 1 := by
                rw [len_cps, cps_append, List.length_append, ← len_cps]
                rfl
              exact sm100 (by omega)
            have kn : ∀ {H' : Hp}, KName K H' (.str (Txt.upper r.1 ++ ("A" : Str))) false := fun {H'} => by
              have z : KName K H' (.str (Txt.upper r.1 ++ ("A" : Str))) (nameS (Txt.upper r.1 ++ ("A" : Str))) := .str _ ll
              rwa [not_A] at z
            exact .inl (row_false (q11 _ _ upd_same) kn (.int _) (.int _) rfl)
    · rintro σ H2 ⟨o, x2, xs, rfl, s2, h2, l2, od⟩
      exact ⟨_, rfl, q o xs H2 ((t3.trans sc).trans s2) h2 (by omega) od⟩
end
end LR
set_option Elab.async false
set_option linter.all false
set_option maxRecDepth 100000
set_option maxHeartbeats 4000000
namespace LR
open PySem L2
open PySem.W (Frag nsIn findIn kitOne)
theorem vals_small : ∀ v ∈ vals, v.natAbs < 10 ^ 29 := by decide +kernel
theorem Drawn.small {zs : List Str} {rows : List RowD} (h : Drawn zs rows) (nm : ∀ z ∈ zs, nameS z = true) : Small rows := fun r hr => by
  have := h.tm r hr
  exact ⟨nm _ (h.nm r hr), by omega, vals_small _ (h.vl r hr)⟩
theorem Good.perm {rows rows' : List RowD} (h : Good rows) (p : rows'.Perm rows) : Good rows' := ⟨fun r hr => h.nm r (p.mem_iff.mp hr), ((p.map keyOf).nodup_iff).mpr h.nd, by rw [p.length_eq]; exact h.ln⟩
theorem TabAt.but {n : Nat} {C p : Addr} {H H' : Hp} {a : Addr} {rows : List RowD} (h : TabAt C H a rows) (b : But p H H') (s : Src n H p) : TabAt C H' a rows := by
  obtain ⟨dx, la, ls, pa, h1, h2, h3, h4⟩ := h
  exact ⟨dx, la, ls, pa, b _ _ (s.ne h1 fun _ z => nomatch z) h1, b _ _ (s.ne h2 fun _ z => nomatch z) h2, h3.but b s, b _ _ (s.ne h4 fun _ z => nomatch z) h4⟩
theorem shownD_perm {rows rows' : List RowD} {ys : List Str} (p : rows'.Perm rows) : shownD rows' ys = shownD rows ys := by
  unfold shownD
  rw [srt_eq p, p.length_eq]
theorem six_len (a b c d e f : Bool) : (PyData.shown (.list [.bool a, .bool b, .bool c, .bool d, .bool e, .bool f])).length ≤ sizeLine :=
  (Rp.list (RpA.cons (Rp.bool a) (RpA.cons (Rp.bool b) (RpA.cons (Rp.bool c) (RpA.cons (Rp.bool d) (RpA.cons (Rp.bool e) (RpA.cons (Rp.bool f) RpA.nil))))))).fits (by decide)
theorem cut_rows {H : Hp} {ls : List V} {rows : List RowD} (h : Rws H ls rows) (g : Good rows) : ∃ rowsO, Rws H (cutV ls none (some (-1))) rowsO ∧ Good rowsO := by
  unfold cutV
  have e1 : HT.sIx ls.length 0 none = 0 := rfl
  rw [e1, List.drop_zero]
  refine ⟨rows.take (HT.sIx ls.length ls.length (some (-1)) - 0), ?_, fun r hr => g.nm r (List.mem_of_mem_take hr), ?_, ?_⟩
  · generalize HT.sIx ls.length ls.length (some (-1)) - 0 = k
    clear e1 g
    induction h generalizing k with
    | nil =>
      rw [List.take_nil, List.take_nil]
      exact .nil
    | cons r t ih =>
      cases k with
      | zero => exact .nil
      | succ k => exact .cons r (ih k)
  · rw [List.map_take]
    exact List.Pairwise.sublist (List.take_sublist _ _) g.nd
  · have := g.ln
    rw [List.length_take]
    omega
structure LawD where
  (fP fO fT fG fL fM fB fS fU fX fV fN fY : Addr)
  (dP dO dT dG dL dM dB dS dU dX dV dN dY : FuncData)
structure LawF (K : Frag) (mg : Str → Option Value) (L : LawD) : Prop where
  Z : Hlp K mg L.fP L.fO L.dP L.dO
  zT : DefAt K mg "_law_tag" sTag L.fT L.dT ["_law_source_here"]
  zG : DefAt K mg "_law_tags" sTags L.fG L.dG ["_law_source_here", "_law_many"]
  zL : DefAt K mg "_law_lines" sLines L.fL L.dL ["_law_source_here", "_law_tags_here", "_law_most"]
  zM : DefAt K mg "_law_mixed" sMix L.fM L.dM ["_law_source_here", "_law_things"]
  zB : DefAt K mg "_law_table" sTable L.fB L.dB ["_law_lines_here"]
  zS : DefAt K mg "_law_shown" sShow L.fS L.dS ["_law_sheet"]
  zU : DefAt K mg "_law_due" sDue L.fU L.dU ["_law_lines_here"]
  zX : DefAt K mg "_law_strangers" sOdd L.fX L.dX ["_law_lines_here"]
section
variable {P : Program} {w : World} {K : Frag} {mg : Str → Option Value} {base : Heap} {D : TabD} {L : LawD}
abbrev sRight : Stmt := top 27
abbrev nRight : List Str := ["_law_source_here", "_law_tags_here", "_law_lines_here", "_law_sheet", "_law_twin", "_law_other", "_law_far", "_law_even", "_law_told", "_law_thing"]
theorem scRight : FnScope nRight ["_law_source_here"] (defScope sRight) := ⟨rfl, rfl, rfl, by decide +kernel, rfl, by decide +kernel, by decide +kernel⟩
def spRight : Sp := fun vs H Q _ => ∃ (p : Addr) (n : Nat), vs = [.ref p] ∧ Src n H p ∧ n < 50000 ∧ ∀ H', But p H H' → Src (n + 300) H' p → Q (.bl true) H'
theorem ok_right {f : Addr} {fd : FuncData} {k : Nat} (F : Fun K "_law_right" "_law_right" sRight f fd) (B : Tab K mg D) (Y : LawF K mg L) : FnOkG P w K mg base CX0 (k + 20) f fd ["_law_source_here"] spRight := by
  have GP : FnOk P w K mg base CX0 (k + 12) L.fP L.dP ["_law_source_here", "_law_many"] spPick := ok_pick Y.Z.zP.F Y.Z.T
  have GG : FnOk P w K mg base CX0 (k + 12) L.fG L.dG ["_law_source_here", "_law_many"] spTags := ok_tags Y.zG.F Y.Z Y.zT
  have GL : FnOk P w K mg base CX0 (k + 12) L.fL L.dL ["_law_source_here", "_law_tags_here", "_law_most"] spLines := ok_lines Y.zL.F Y.Z
  have GM : FnOk P w K mg base CX0 (k + 12) L.fM L.dM ["_law_source_here", "_law_things"] spMix := ok_mix Y.zM.F Y.Z
  have GB : FnOk P w K mg base CX0 (k + 12) L.fB L.dB ["_law_lines_here"] (spTable D.C) := ok_table Y.zB.F B
  have GO : FnOk P w K mg base CX0 (k + 12) D.fo D.dO ["rows"] (spOf K D.C) := ok_of B
  have GS : FnOkG P w K mg base CX0 (k + 12) L.fS L.dS ["_law_sheet"] (spShow D.C) := ok_show Y.zS.F B Y.Z.T2
  have GU : FnOkG P w K mg base CX0 (k + 12) L.fU L.dU ["_law_lines_here"] spDue := ok_due Y.zU.F Y.Z.T Y.Z.T2
  have GX : FnOk P w K mg base CX0 (k + 12) L.fX L.dX ["_law_lines_here"] (spOdd K) := ok_odd Y.zX.F Y.Z.T2
  have GE : FnOk P w K mg base CX0 (k + 12) D.fe D.de ["self", "other"] (spEq K D.C) := ok_eq B
  have GC : FnOk P w K mg base CX0 (k + 12) D.fc D.dc ["self", "value"] (spHas K D.C) := ok_has B
  have GR : FnOk P w K mg base CX0 (k + 12) D.fr D.dr ["self"] (spRows D.C) := ok_rows B
  refine F.okG scRight (fun vs H Q E h => ?_) (fun cdv A outer s H vs Q E hr hg h => ?_)
  · obtain ⟨p, n, rfl, _⟩ := h
    rfl
  · obtain ⟨p, n, rfl, hs, hn, q⟩ := h
    have r2 : Room (k + 12) _ := hr.mono (by omega)
    have r3 : Room (k + 13) _ := hr.mono (by omega)
    refine ⟨_, pss_cons (ps_set (i := 1) scRight.nd rfl (.inl rfl) (pe_call GG r2 rfl Y.zG.g Y.zG.F.kp Y.zG.b .nil pass0 (pa_cons (pv 0) (pa_cons (pe_op op_add pe_int (pe_call GP r2 rfl Y.Z.zP.g Y.Z.zP.F.kp Y.Z.zP.b .nil pass0 (pa_cons (pv 0) (pa_cons pe_int pa_nil)))) pa_nil))))
      (pss_cons (ps_set (i := 2) scRight.nd rfl (.inl rfl) (pe_call GL r2 rfl Y.zL.g Y.zL.F.kp Y.zL.b .nil pass0 (pa_cons (pv 0) (pa_cons (pv 1) (pa_cons pe_int pa_nil)))))
      (pss_cons (ps_asg (pe_tup (pa_cons (pe_call GB r2 rfl Y.zB.g Y.zB.F.kp Y.zB.b .nil pass0 (pa_cons (pv 2) pa_nil)) (pa_cons (pe_smeth (pe_glob (v := .ref D.C) rfl B.c.g rfl) B.cr B.sm GO r2 B.bo pass0 (pa_cons (pe_tupleOf (by rfl) Y.Z.T.tup (pe_call GM r2 rfl Y.zM.g Y.zM.F.kp Y.zM.b .nil pass0 (pa_cons (pv 0) (pa_cons (pv 2) pa_nil)))) pa_nil)) pa_nil)))
          (pg_tup rfl (pgs_cons (pg_name (i := 3) scRight.nd rfl (.inr rfl)) (pgs_cons (pg_name (i := 4) scRight.nd rfl (.inl rfl)) pgs_nil))))
      (pss_cons (ps_if (PW.pt (pw_or (pt_cmpR op_ne (pe_callG GS r2 hg rfl Y.zS.g Y.zS.F.kp Y.zS.b .nil pass0 (pa_cons (pv 3) pa_nil)) (pe_callG GU r2 hg rfl Y.zU.g Y.zU.F.kp Y.zU.b .nil pass0 (pa_cons (pv 2) pa_nil)) (nomark _))
          (pw_or1 (pt_cmpR op_ne (pe_callG GS r2 hg rfl Y.zS.g Y.zS.F.kp Y.zS.b .nil pass0 (pa_cons (pv 4) pa_nil)) (pe_callG GU r2 hg rfl Y.zU.g Y.zU.F.kp Y.zU.b .nil pass0 (pa_cons (pv 2) pa_nil)) (nomark _))))) pss_dead pss_nil)
      (pss_cons (ps_if (pt_not (pt_val (pe_callB (cr_all rfl) (by rfl) Y.Z.T.alL (by decide +kernel) (pa_cons
          (pe_lc (own := [("_law_thing", 9)]) (g := gName 9) (tt := tYes) rfl scRight.nd (pi_list (pe_call GX r2 rfl Y.zX.g Y.zX.F.kp Y.zX.b .nil pass0 (pa_cons (pv 2) pa_nil))) (blkOk_by (N := nRight) (sc := defScope sRight) (by decide +kernel)) (fun _ _ _ _ _ => pg_name (i := 9) scRight.nd rfl (.inl rfl)) (fun _ _ _ _ _ => pts_nil)
            (fun _ _ _ _ _ => pe_cmpR (op_notInI B.sc GC r2 B.bc) (pv 9) (pv 3) rfl)) pa_nil)))) pss_dead pss_nil)
      (pss_cons (ps_set (i := 5) scRight.nd rfl (.inl rfl) (pe_ifExp (pt_cmpR op_eq (pe_call GP r2 rfl Y.Z.zP.g Y.Z.zP.F.kp Y.Z.zP.b .nil pass0 (pa_cons (pv 0) (pa_cons pe_int pa_nil))) pe_int (nomark _))
          (pe_call GL r2 rfl Y.zL.g Y.zL.F.kp Y.zL.b .nil pass0 (pa_cons (pv 0) (pa_cons (pv 1) (pa_cons pe_int pa_nil)))) (pe_slice sl_list (pv 2) po_none (po_some (pe_un un_neg pe_int)))))
      (pss_cons (ps_par (i := 6) (j := 7) rfl scRight.nd rfl rfl (by decide) rfl rfl (pa_cons (pe_call GB r2 rfl Y.zB.g Y.zB.F.kp Y.zB.b .nil pass0 (pa_cons (pv 5) pa_nil))
          (pa_cons (pe_cmpR (op_eqD (hu64 hr)) (pe_callB (cr_sortR (enc := enc) (R := RowAt) (hu64 hr)) (by rfl) Y.Z.T.srt (by decide +kernel) (pa_cons (pv 5) pa_nil)) (pe_callB (cr_sortR (enc := enc) (R := RowAt) (hu64 hr)) (by rfl) Y.Z.T.srt (by decide +kernel) (pa_cons (pv 2) pa_nil)) (nomark _)) pa_nil)) rfl)
      (pss_cons (ps_set (i := 8) scRight.nd rfl (.inl rfl) (pe_lst (pa_cons (pe_cmpR (op_eqI B.se GE r2 B.be) (pv 3) (pv 4) (nomark _)) (pa_cons (pe_cmpR (op_neI B.se B.hm B.ne GE r3 B.be) (pv 3) (pv 4) (nomark _)) (pa_cons (pe_cmpR (op_eqI B.se GE r2 B.be) (pv 3) (pv 6) (nomark _)) (pa_cons (pe_cmpR (op_neI B.se B.hm B.ne GE r3 B.be) (pv 3) (pv 6) (nomark _))
          (pa_cons (pe_cmpR (op_eqI B.se GE r2 B.be) (pv 3) (pe_prop (pv 3) B.c.cl B.pr GR r3 B.br .nil pass0 rfl) (nomark _)) (pa_cons (pe_cmpR (op_neI B.se B.hm B.ne GE r3 B.be) (pv 3) pe_int (nomark _)) pa_nil))))))))
      (pss_one (ps_ret (pe_cmpR op_eq (pe_callB (call_repr (hu64 hr)) (by rfl) Y.Z.T2.rep (by decide +kernel) (pa_cons (pv 8) pa_nil))
          (pe_callB (call_repr (hu64 hr)) (by rfl) Y.Z.T2.rep (by decide +kernel) (pa_cons (pe_lst (pa_cons pe_bl (pa_cons pe_bl (pa_cons (pv 7) (pa_cons (pe_not (pv 7)) (pa_cons pe_bl (pa_cons pe_bl pa_nil))))))) pa_nil)) (nomark _))))))))))), ?_⟩
    refine ⟨_, rfl, _, rfl, p, 4, n, rfl, hs, by decide, by decide, by omega, fun d H1 hd b1 s1 => ⟨_, _, rfl, rfl, ?_⟩⟩
    refine ⟨p, 1 + d, n + 1, rfl, s1, by omega, by omega, fun t zs H2 nt ht lz nd nm b2 s2 => ?_⟩
    have tp : t ≠ p := s1.fresh nt
    refine ⟨_, rfl, _, rfl, p, t, 9, _, zs, rfl, s2, by decide, by omega, tp, ht, by omega, by omega, nm, fun Ln ls rows H3 nL hL hR hD l9 b3 s3 => ?_⟩
    have Lp : Ln ≠ p := s2.fresh nL
    have hG : Good rows := ⟨fun r hr => nm _ (hD.nm r hr), hD.nd, by omega⟩
    have hS : Small rows := hD.small nm
    refine ⟨_, rfl, Ln, ls, rows, rfl, hL, hR, hG, fun sh H4 s4 nsh hT => ?_⟩
    refine ⟨rfl, _, rfl, _, rfl, p, Ln, _, ls, rows, rfl, s3.mono s4, by omega, Lp, s4 _ _ hL, hR.mono s4, by omega, fun M ms rows' H5 nM hM hR' pm b5 s5 => .inl ⟨M, ms, rfl, SqL.of hM, fun tt ntt => ?_⟩⟩
    have c5 := same_new (o := .tup ms) ntt
    have hG' : Good rows' := hG.perm pm
    have hS' : Small rows' := fun r hr => hS r (pm.mem_iff.mp hr)
    refine ⟨tt, ms, rows', rfl, sqT_of upd_same, hR'.mono c5, hG', fun tw H6 s6 ntw hT' => ⟨sm100 (Nat.le_of_ble_eq_true rfl), fun pr npr => ?_⟩⟩
    have c6 := same_new (o := .tup [V.ref sh, V.ref tw]) npr
    have s57 := c5.trans (s6.trans c6)
    have b47 : But p H4 _ := b5.trans (But.of s57)
    have hT7 := (hT.but b5 (s3.mono s4)).mono s57
    have hT7' := hT'.mono c6
    have L7 := b47 _ _ Lp (s4 _ _ hL)
    have R7 : Rws _ ls rows := ((hR.mono s4).but b5 (s3.mono s4)).mono s57
    have S7 := s5.mono s57
    refine ⟨pr, [.ref sh, .ref tw], rfl, sqT_of upd_same, rfl, .ref sh, [.ref tw], rfl, .ref tw, [], rfl, rfl, ?_⟩
    -- shown(sheet) != due(lines) or shown(twin) != due(lines)
    refine ⟨_, rfl, sh, rows, rfl, hT7, hG, hS, fun y1 H8 s8 f8 => ⟨_, rfl, Ln, ls, rows, rfl, s8 _ _ L7, R7.mono s8, hG, hS, fun y2 H9 s9 f9 => ⟨rfl, false, ?_, iteF ?_⟩⟩⟩
    · rw [feeds_eq f8.nd f9.nd (fun z => (f8.mem z).trans (f9.mem z).symm) f8.so f9.so, decide_eq_true rfl]
      rfl
    have s79 := s8.trans s9
    refine ⟨_, rfl, tw, rows', rfl, hT7'.mono s79, hG', hS', fun y3 HA sA fA => ⟨_, rfl, Ln, ls, rows, rfl, (s79.trans sA) _ _ L7, R7.mono (s79.trans sA), hG, hS, fun y4 HB sB fB => ⟨rfl, false, ?_, iteF ?_⟩⟩⟩
    · have e : y3 = y4 := feeds_eq fA.nd fB.nd (fun z => (fA.mem z).trans (((pm.map (·.1)).mem_iff).trans (fB.mem z).symm)) fA.so fB.so
      rw [e, shownD_perm pm, decide_eq_true rfl]
      rfl
    have s7B := s79.trans (sA.trans sB)
    -- not all([thing not in sheet ..])
    refine ⟨_, rfl, Ln, ls, rows, zs, rfl, s7B _ _ L7, R7.mono s7B, hG, hD, fun o xs HC sC ho lo od => ⟨o, rfl, ⟨_, SqL.of ho⟩, fun D5 n5 => ?_⟩⟩
    have s7C := s7B.trans sC
    have hTC := hT7.mono s7C
    refine lc_it (walk_list (K := K) (a := o) (xs := xs)) (fun i H' => Same HC H' ∧ H' D5 = some (.lst ((xs.take i).map fun _ => V.bl true))) ⟨same_new n5, upd_same⟩ (fun i H' _ h => SqL.of (h.1 _ _ ho)) ?_ ?_
    · rintro i x Ha Hb hi ⟨sa, ha⟩ ⟨rfl, hx⟩
      have hx' : xs[i]? = some x := hx
      obtain ⟨dx, la, vs, pa, e1, e2, e3, e4⟩ := hTC.mono sa
      rcases (od x (List.mem_of_getElem? hx')).mono sa with h | ⟨r, h1, h2, h3⟩
      · refine ⟨rfl, yesIf ⟨_, rfl, _, rfl, sh, dx, _, rfl, e1, sh, rows, x, rfl, hTC.mono sa, hG, .inl ⟨h, fun H' s' => ⟨false, rfl, _, s' _ _ ha, ?_, fun b o e => ?_, ?_⟩⟩⟩⟩
        · rw [List.length_map, List.length_take, sizeLine_eq]
          omega
        · rw [upd_ne (ne_of_none e n5)]
          exact s' _ _ (sa _ _ e)
        · rw [upd_same, take_map_succ hx']
          rfl
      · refine ⟨rfl, yesIf ⟨_, rfl, _, rfl, sh, dx, _, rfl, e1, sh, rows, x, rfl, hTC.mono sa, hG, .inr ⟨r, h1, h2, fun H' s' => ⟨_, rfl, _, s' _ _ ha, ?_, fun b o e => ?_, ?_⟩⟩⟩⟩
        · rw [List.length_map, List.length_take, sizeLine_eq]
          omega
        · rw [upd_ne (ne_of_none e n5)]
          exact s' _ _ (sa _ _ e)
        · rw [upd_same, take_map_succ hx', decide_eq_false h3]
          rfl
    rintro HD ⟨sD, hD5⟩
    rw [List.take_length] at hD5
    refine ⟨D5, xs.map fun _ => true, rfl, ?_, true, ?_, iteF ?_⟩
    · rw [List.map_map]
      exact SqL.of hD5
    · refine congrArg V.bl ?_
      rw [List.all_map]
      exact List.all_eq_true.mpr fun _ _ => rfl
    have s7D := s7C.trans sD
    have SD := S7.mono s7D
    have LD := s7D _ _ L7
    have RD := R7.mono s7D
    have TD := hT7.mono s7D
    have TD' := hT7'.mono s7D
    have bD : But p H2 HD := ((b3.trans (But.of s4)).trans b47).trans (But.of s7D)
    have hpp : ∀ {b o}, HD b = some o → (∀ ys, o ≠ .lst ys) → b ≠ p := fun e d => SD.ne e d
    refine ⟨_, rfl, p, 2, _, rfl, SD, by decide, by decide, by omega, fun d2 HE hd2 bE sE => ?_⟩
    by_cases d0 : d2 = 0
    · subst d0
      refine ⟨rfl, true, rfl, iteT ?_⟩
      refine ⟨_, rfl, _, rfl, p, t, 2, _, zs, rfl, sE, by decide, by omega, tp, (bD.trans bE) _ _ tp ht, by omega, by omega, nm, fun O os rowsO HF nO hO hRO hDO lO bF sF => ?_⟩
      have hGO : Good rowsO := ⟨fun r hr => nm _ (hDO.nm r hr), hDO.nd, by omega⟩
      have bX := bE.trans bF
      have LX := bX _ _ Lp LD
      have RX := RD.but bX SD
      have TX := TD.but bX SD
      have TX' := TD'.but bX SD
      have sX := sF.le (show _ ≤ n + 299 by omega)
      refine ⟨_, rfl, O, os, rowsO, rfl, hO, hRO, hGO, fun fa HG sG nfa hTf => ?_⟩
      refine ⟨_, rfl, O, os, rowsO, rfl, .inl (SqL.of (sG _ _ hO)), hRO.mono sG, fun v b h => h.dp, enc_alike rowsO, enc_sort rowsO, fun b _ => enc_depth b, fun v1 o1 n1 h1 => ?_⟩
      have g1 := same_new (o := .lst v1) n1
      refine ⟨_, rfl, Ln, ls, rows, rfl, .inl (SqL.of ((sG.trans g1) _ _ LX)), RX.mono (sG.trans g1), fun v b h => h.dp, enc_alike rows, enc_sort rows, fun b _ => enc_depth b, fun v2 o2 n2 h2 => ?_⟩
      have g2 := same_new (o := .lst v2) n2
      have h1' : Rws _ v1 (srt rowsO) := Rws.mono h1 (g1.trans g2)
      have h2' : Rws _ v2 (srt rows) := Rws.mono h2 g2
      refine ⟨.list ((srt rowsO).map enc), .list ((srt rows).map enc), .lst (SqL.of (g2 _ _ upd_same)) h1'.dp, .lst (SqL.of upd_same) h2'.dp, shaped_lst (srt_names hGO.nm), shaped_lst (srt_names hG.nm), ?_⟩
      rw [PyData.eqv, eqvAll_enc]
      refine ⟨_, _, rfl, ?_⟩
      have g := sG.trans (g1.trans g2)
      have TZ := TX.mono g
      have TZ' := TX'.mono g
      have TF := hTf.mono (g1.trans g2)
      obtain ⟨dx, la, vs, pa, e1, e2, e3, e4⟩ := id TZ
      have e0 : decide (srt rows = srt rows') = true := decide_eq_true (srt_eq pm.symm)
      refine ⟨_, rfl, _, rfl, sh, dx, _, _, rfl, e1, B.ty TZ', B.nfC, sh, rows, _, rfl, TZ, hG, .inr ⟨tw, rows', rfl, TZ', hG', _, rfl, ?_⟩⟩
      refine ⟨_, rfl, _, rfl, sh, dx, _, _, rfl, e1, B.ty TZ', B.nfC, sh, rows, _, rfl, TZ, hG, .inr ⟨tw, rows', rfl, TZ', hG', _, rfl, ?_⟩⟩
      refine ⟨_, rfl, _, rfl, sh, dx, _, _, rfl, e1, B.ty TF, B.nfC, sh, rows, _, rfl, TZ, hG, .inr ⟨fa, rowsO, rfl, TF, hGO, _, rfl, ?_⟩⟩
      refine ⟨_, rfl, _, rfl, sh, dx, _, _, rfl, e1, B.ty TF, B.nfC, sh, rows, _, rfl, TZ, hG, .inr ⟨fa, rowsO, rfl, TF, hGO, _, rfl, ?_⟩⟩
      refine ⟨_, rfl, _, rfl, sh, dx, _, rfl, e1, sh, rows, rfl, TZ, fun lr vr hlr hvr => ?_⟩
      refine ⟨sh, dx, _, _, rfl, e1, tyT (sqT_of hlr), B.nfT, sh, rows, _, rfl, TZ, hG, .inl ⟨_, tyT (sqT_of hlr), B.ktT, _, rfl, ?_⟩⟩
      refine ⟨_, rfl, sh, dx, _, _, rfl, e1, .base (.int 0), B.nfI, sh, rows, _, rfl, TZ, hG, .inl ⟨_, .base (.int 0), B.ktI, _, rfl, sm100 (Nat.le_of_ble_eq_true rfl), fun td ntd => ?_⟩⟩
      refine ⟨_, rfl, td, .list [.bool _, .bool _, .bool _, .bool _, .bool _, .bool _], rfl, .lst (SqL.of upd_same) (.cons (.bl _) (.cons (.bl _) (.cons (.bl _) (.cons (.bl _) (.cons (.bl _) (.cons (.bl _) .nil)))))), hg, rfl, rfl, by simp [PyData.depth, PyData.depthAll], six_len _ _ _ _ _ _, ?_⟩
      refine ⟨_, rfl, _, rfl, _, rfl, sm100 (Nat.le_of_ble_eq_true rfl), fun l2 nl2 => ?_⟩
      refine ⟨l2, .list [.bool true, .bool false, .bool (decide (srt rowsO = srt rows)), .bool (!decide (srt rowsO = srt rows)), .bool false, .bool true], rfl, .lst (SqL.of upd_same) (.cons (.bl _) (.cons (.bl _) (.cons (.bl _) (.cons (.bl _) (.cons (.bl _) (.cons (.bl _) .nil)))))), hg, rfl, rfl, by simp [PyData.depth, PyData.depthAll], six_len _ _ _ _ _ _, rfl, ?_⟩
      have ec : decide (srt rows = srt rowsO) = decide (srt rowsO = srt rows) := decide_eq_decide.mpr ⟨Eq.symm, Eq.symm⟩
      have key : PyData.shown (.list [.bool (decide (srt rows = srt rows') != false), .bool (decide (srt rows = srt rows') != true), .bool (decide (srt rows = srt rowsO) != false), .bool (decide (srt rows = srt rowsO) != true), .bool (false != false), .bool (false != true)]) =
          PyData.shown (.list [.bool true, .bool false, .bool (decide (srt rowsO = srt rows)), .bool (!decide (srt rowsO = srt rows)), .bool false, .bool true]) := by
        rw [e0, ec]
        generalize decide (srt rowsO = srt rows) = b
        cases b <;> rfl
      have ee : ∀ x y : Str, x = y → decide (V.str x = V.str y) = true := fun x y h => by
        rw [h]
        exact decide_eq_true rfl
      have fq := fun o : HO => q _ (((((b1.trans b2).trans bD).trans bX).trans (But.of g)).trans (But.of ((same_new ntd).trans (same_new (o := o) nl2)))) (((sX.mono g).mono ((same_new ntd).trans (same_new (o := o) nl2))).le (by omega))
      rw [ee _ _ key]
      exact fq _
    · refine ⟨rfl, false, congrArg V.bl (decide_eq_false fun z => d0 (by have := V.int.inj z; omega)), iteF ?_⟩
      refine ⟨_, rfl, 1, rfl, -1, rfl, Ln, ls, rfl, SqL.of (bE _ _ Lp LD), fun O nO => ?_⟩
      have sO := same_new (o := .lst (cutV ls none (some (-1)))) nO
      obtain ⟨rowsO, hRO0, hGO⟩ := cut_rows (RD.but bE SD) hG
      have hRO := hRO0.mono sO
      have hO : upd HE O (.lst (cutV ls none (some (-1)))) O = some (.lst (cutV ls none (some (-1)))) := upd_same
      generalize cutV ls none (some (-1)) = os at sO hRO0 hRO hO
      have bX := bE.trans (But.of sO)
      have LX := bX _ _ Lp LD
      have RX := RD.but bX SD
      have TX := TD.but bX SD
      have TX' := TD'.but bX SD
      have sX := (sE.mono sO).le (show _ ≤ n + 299 by omega)
      refine ⟨_, rfl, O, os, rowsO, rfl, hO, hRO, hGO, fun fa HG sG nfa hTf => ?_⟩
      refine ⟨_, rfl, O, os, rowsO, rfl, .inl (SqL.of (sG _ _ hO)), hRO.mono sG, fun v b h => h.dp, enc_alike rowsO, enc_sort rowsO, fun b _ => enc_depth b, fun v1 o1 n1 h1 => ?_⟩
      have g1 := same_new (o := .lst v1) n1
      refine ⟨_, rfl, Ln, ls, rows, rfl, .inl (SqL.of ((sG.trans g1) _ _ LX)), RX.mono (sG.trans g1), fun v b h => h.dp, enc_alike rows, enc_sort rows, fun b _ => enc_depth b, fun v2 o2 n2 h2 => ?_⟩
      have g2 := same_new (o := .lst v2) n2
      have h1' : Rws _ v1 (srt rowsO) := Rws.mono h1 (g1.trans g2)
      have h2' : Rws _ v2 (srt rows) := Rws.mono h2 g2
      refine ⟨.list ((srt rowsO).map enc), .list ((srt rows).map enc), .lst (SqL.of (g2 _ _ upd_same)) h1'.dp, .lst (SqL.of upd_same) h2'.dp, shaped_lst (srt_names hGO.nm), shaped_lst (srt_names hG.nm), ?_⟩
      rw [PyData.eqv, eqvAll_enc]
      refine ⟨_, _, rfl, ?_⟩
      have g := sG.trans (g1.trans g2)
      have TZ := TX.mono g
      have TZ' := TX'.mono g
      have TF := hTf.mono (g1.trans g2)
      obtain ⟨dx, la, vs, pa, e1, e2, e3, e4⟩ := id TZ
      have e0 : decide (srt rows = srt rows') = true := decide_eq_true (srt_eq pm.symm)
      refine ⟨_, rfl, _, rfl, sh, dx, _, _, rfl, e1, B.ty TZ', B.nfC, sh, rows, _, rfl, TZ, hG, .inr ⟨tw, rows', rfl, TZ', hG', _, rfl, ?_⟩⟩
      refine ⟨_, rfl, _, rfl, sh, dx, _, _, rfl, e1, B.ty TZ', B.nfC, sh, rows, _, rfl, TZ, hG, .inr ⟨tw, rows', rfl, TZ', hG', _, rfl, ?_⟩⟩
      refine ⟨_, rfl, _, rfl, sh, dx, _, _, rfl, e1, B.ty TF, B.nfC, sh, rows, _, rfl, TZ, hG, .inr ⟨fa, rowsO, rfl, TF, hGO, _, rfl, ?_⟩⟩
      refine ⟨_, rfl, _, rfl, sh, dx, _, _, rfl, e1, B.ty TF, B.nfC, sh, rows, _, rfl, TZ, hG, .inr ⟨fa, rowsO, rfl, TF, hGO, _, rfl, ?_⟩⟩
      refine ⟨_, rfl, _, rfl, sh, dx, _, rfl, e1, sh, rows, rfl, TZ, fun lr vr hlr hvr => ?_⟩
      refine ⟨sh, dx, _, _, rfl, e1, tyT (sqT_of hlr), B.nfT, sh, rows, _, rfl, TZ, hG, .inl ⟨_, tyT (sqT_of hlr), B.ktT, _, rfl, ?_⟩⟩
      refine ⟨_, rfl, sh, dx, _, _, rfl, e1, .base (.int 0), B.nfI, sh, rows, _, rfl, TZ, hG, .inl ⟨_, .base (.int 0), B.ktI, _, rfl, sm100 (Nat.le_of_ble_eq_true rfl), fun td ntd => ?_⟩⟩
      refine ⟨_, rfl, td, .list [.bool _, .bool _, .bool _, .bool _, .bool _, .bool _], rfl, .lst (SqL.of upd_same) (.cons (.bl _) (.cons (.bl _) (.cons (.bl _) (.cons (.bl _) (.cons (.bl _) (.cons (.bl _) .nil)))))), hg, rfl, rfl, by simp [PyData.depth, PyData.depthAll], six_len _ _ _ _ _ _, ?_⟩
      refine ⟨_, rfl, _, rfl, _, rfl, sm100 (Nat.le_of_ble_eq_true rfl), fun l2 nl2 => ?_⟩
      refine ⟨l2, .list [.bool true, .bool false, .bool (decide (srt rowsO = srt rows)), .bool (!decide (srt rowsO = srt rows)), .bool false, .bool true], rfl, .lst (SqL.of upd_same) (.cons (.bl _) (.cons (.bl _) (.cons (.bl _) (.cons (.bl _) (.cons (.bl _) (.cons (.bl _) .nil)))))), hg, rfl, rfl, by simp [PyData.depth, PyData.depthAll], six_len _ _ _ _ _ _, rfl, ?_⟩
      have ec : decide (srt rows = srt rowsO) = decide (srt rowsO = srt rows) := decide_eq_decide.mpr ⟨Eq.symm, Eq.symm⟩
      have key : PyData.shown (.list [.bool (decide (srt rows = srt rows') != false), .bool (decide (srt rows = srt rows') != true), .bool (decide (srt rows = srt rowsO) != false), .bool (decide (srt rows = srt rowsO) != true), .bool (false != false), .bool (false != true)]) =
          PyData.shown (.list [.bool true, .bool false, .bool (decide (srt rowsO = srt rows)), .bool (!decide (srt rowsO = srt rows)), .bool false, .bool true]) := by
        rw [e0, ec]
        generalize decide (srt rowsO = srt rows) = b
        cases b <;> rfl
      have ee : ∀ x y : Str, x = y → decide (V.str x = V.str y) = true := fun x y h => by
        rw [h]
        exact decide_eq_true rfl
      have fq := fun o : HO => q _ (((((b1.trans b2).trans bD).trans bX).trans (But.of g)).trans (But.of ((same_new ntd).trans (same_new (o := o) nl2)))) (((sX.mono g).mono ((same_new ntd).trans (same_new (o := o) nl2))).le (by omega))
      rw [ee _ _ key]
      exact fq _
end
end LR
set_option Elab.async false
set_option linter.all false
set_option maxRecDepth 100000
set_option maxHeartbeats 4000000
namespace LR
open PySem L2
open PySem.W (Frag nsIn findIn kitOne)
section
variable {P : Program} {w : World} {K : Frag} {mg : Str → Option Value} {base : Heap} {D : TabD} {L : LawD}
theorem four_len (a b c d : Bool) : (PyData.shown (.list [.bool a, .bool b, .bool c, .bool d, .tuple [], .tuple []])).length ≤ sizeLine :=
  (Rp.list (RpA.cons (Rp.bool a) (RpA.cons (Rp.bool b) (RpA.cons (Rp.bool c) (RpA.cons (Rp.bool d) (RpA.cons (Rp.tuple RpA.nil) (RpA.cons (Rp.tuple RpA.nil) RpA.nil))))))).fits (by decide)
theorem sq_but {H0 H1 H2 : Hp} {p a : Addr} {xs : List V} (np : H0 p = none) (h : SqL K H0 a xs) (s : Same H0 H1) (b : But p H1 H2) : SqL K H2 a xs := by
  rcases h with (h | ⟨o, h⟩) | h
  · exact .inl (.inl (b _ _ (ne_of_none h np) (s _ _ h)))
  · exact .inl (.inr ⟨o, b _ _ (ne_of_none h np) (s _ _ h)⟩)
  · exact .inr h
theorem make_tab1 {H1 : Hp} {vs : List V} {rows : List RowD} {x dx : Addr} {G : Hp → Prop} {E : XK} (hR : Rws H1 vs rows) (hG : Good rows) (nx : H1 x = none) (nd : H1 dx = none) (ne : dx ≠ x) (q : ∀ H2, Same H1 H2 → TabAt D.C H2 x rows → G H2) :
    spInit K D.C (.ref x :: vs) (upd (upd H1 dx (.own x)) x (.ins D.C dx [])) (fun v H2 => v = .non ∧ G H2) E := by
  have z := make_tab (D := D) (K := K) (E := E) (Q := fun v H2 => v = .ref x → G H2) hR hG (fun y H2 s _ t e => by cases e; exact q H2 s t) x dx nx nd ne
  obtain ⟨ws, rest, h1, h2, h3, h4⟩ := z
  refine ⟨ws, rest, h1, h2, h3, fun p np => ?_⟩
  obtain ⟨x', p', dx', rest', rows', k1, k2, k3, k4, k5, k6⟩ := h4 p np
  exact ⟨x', p', dx', rest', rows', k1, k2, k3, k4, k5, fun H' b t => ⟨rfl, (k6 H' b t).2 rfl⟩⟩
abbrev sLaw : Stmt := top 28
abbrev nLaw : List Str := ["_law_script", "_law_one_here", "_law_none", "_law_told", "_law_k", "_law_source_here", "_law_turn"]
theorem scLaw : FnScope nLaw ["_law_script"] (defScope sLaw) := ⟨rfl, rfl, rfl, by decide +kernel, rfl, by decide +kernel, by decide +kernel⟩
def spLaw (K : Frag) : Sp := fun vs H Q _ => ∃ (a : Addr) (ns : List Int), vs = [.ref a] ∧ SqL K H a (ns.map V.int) ∧ ns.length ≤ 63 ∧ ∀ H', Q (.bl true) H'
structure LawE (K : Frag) (mg : Str → Option Value) (L : LawD) : Prop where
  zV : DefAt K mg "_law_right" sRight L.fV L.dV ["_law_source_here"]
  zN : DefAt K mg "_law_number" sNum L.fN L.dN ["_law_script", "_law_k"]
  zY : DefAt K mg "_law_source" sSrc L.fY L.dY ["_law_cell"]
theorem ok_law {f : Addr} {fd : FuncData} (F : Fun K "law" "law" sLaw f fd) (B : Tab K mg D) (Y : LawF K mg L) (W : LawE K mg L) : FnOkG P w K mg base CX0 30 f fd ["_law_script"] (spLaw K) := by
  have GI : FnR P w K mg base CX0 10 D.fi (spInit K D.C) := ok_init (k := 6) B.zi B.Z B.c
  have GV : FnOkG P w K mg base CX0 20 L.fV L.dV ["_law_source_here"] spRight := ok_right (k := 0) W.zV.F B Y
  have GN : FnOk P w K mg base CX0 20 L.fN L.dN ["_law_script", "_law_k"] (spNum K) := ok_num W.zN.F Y.Z.T
  have GY : FnOk P w K mg base CX0 20 L.fY L.dY ["_law_cell"] spSrc := ok_src W.zY.F Y.Z.T Y.Z.T2
  have GC : FnOk P w K mg base CX0 12 D.fc D.dc ["self", "value"] (spHas K D.C) := ok_has (k := 9) B
  have GR : FnOk P w K mg base CX0 12 D.fr D.dr ["self"] (spRows D.C) := ok_rows B
  have GF : FnOk P w K mg base CX0 12 D.ff D.df ["self"] (spFeeds D.C) := ok_feeds B
  have GL : FnOk P w K mg base CX0 12 D.fl D.dl ["self"] (spLen D.C) := ok_len B
  refine F.okG scLaw (fun vs H Q E h => ?_) (fun cdv A outer s H vs Q E hr hg h => ?_)
  · obtain ⟨a, ns, rfl, _⟩ := h
    rfl
  · obtain ⟨a, ns, rfl, hS, hn, q⟩ := h
    have r2 : Room 12 _ := hr.mono (by omega)
    have r3 : Room 13 _ := hr.mono (by omega)
    have r5 : Room 15 _ := hr.mono (by omega)
    have r1 : Room 11 _ := hr.mono (by omega)
    have r20 : Room 20 _ := hr.mono (by omega)
    refine ⟨_, pss_cons (ps_par (i := 1) (j := 2) rfl scLaw.nd rfl rfl (by decide) rfl rfl (pa_cons (StX.pe_makeR B.make GI r1 rfl B.c.g pass0 (pa_cons (pe_tup (pa_cons pe_str (pa_cons pe_int (pa_cons pe_int pa_nil)))) pa_nil)) (pa_cons (pe_makeR0 B.make GI r1 rfl B.c.g pass0) pa_nil)) rfl)
      (pss_cons (ps_set (i := 3) scLaw.nd rfl (.inl rfl) (pe_lst (pa_cons (pe_cmpR (op_inI B.sc GC r2 B.bc) (pe_tup (pa_cons pe_str (pa_cons pe_int (pa_cons pe_int pa_nil)))) (pv 1) rfl) (pa_cons (pe_cmpR (op_inI B.sc GC r2 B.bc) (pe_tup (pa_cons pe_str (pa_cons pe_bl (pa_cons pe_int pa_nil)))) (pv 1) rfl)
          (pa_cons (pe_cmpR (op_inI B.sc GC r2 B.bc) (pe_tup (pa_cons pe_str (pa_cons pe_int (pa_cons pe_bl pa_nil)))) (pv 1) rfl) (pa_cons (pe_callTy (call_boolI B.sl B.nb GL r5 B.bl) (by rfl) Y.Z.T.boo (by decide +kernel) (pa_cons (pv 2) pa_nil))
          (pa_cons (pe_prop (pv 2) B.c.cl B.pr GR r3 B.br .nil pass0 rfl) (pa_cons (pe_prop (pv 2) B.c.cl B.pf GF r3 B.bf .nil pass0 rfl) pa_nil))))))))
      (pss_cons (ps_if (pt_cmpR op_ne (pe_callB (call_repr (hu64 hr)) (by rfl) Y.Z.T2.rep (by decide +kernel) (pa_cons (pv 3) pa_nil)) (pe_callB (call_repr (hu64 hr)) (by rfl) Y.Z.T2.rep (by decide +kernel) (pa_cons (pe_lst (pa_cons pe_bl (pa_cons pe_bl (pa_cons pe_bl (pa_cons pe_bl (pa_cons (pe_tup pa_nil) (pa_cons (pe_tup pa_nil) pa_nil))))))) pa_nil)) (nomark _)) pss_dead pss_nil)
      (pss_cons (ps_for PassesOwn.never rfl (pi_range1 (by rfl) Y.Z.T2.ran (pa_cons (pe_callB (call_max2 rfl) (by rfl) Y.Z.T2.max (by decide +kernel) (pa_cons pe_int (pa_cons (pe_callB (call_min2 rfl) (by rfl) Y.Z.T2.min (by decide +kernel) (pa_cons (pe_callB call_len (by rfl) Y.Z.T.len (by decide +kernel) (pa_cons (pv 0) pa_nil)) (pa_cons pe_int pa_nil))) pa_nil))) pa_nil)) (pg_name (i := 4) scLaw.nd rfl (.inl rfl))
        (pss_cons (ps_set (i := 5) scLaw.nd rfl (.inr rfl) (pe_call GY r20 rfl W.zY.g W.zY.F.kp W.zY.b .nil pass0 (pa_cons (pe_call GN r20 rfl W.zN.g W.zN.F.kp W.zN.b .nil pass0 (pa_cons (pv 0) (pa_cons (pv 4) pa_nil))) pa_nil)))
        (pss_one (ps_if (pt_not (pt_val (pe_callB (cr_all rfl) (by rfl) Y.Z.T.alL (by decide +kernel) (pa_cons
          (pe_lc (own := [("_law_turn", 6)]) (g := gName 6) (tt := tYes) rfl scLaw.nd (pi_range1 (by rfl) Y.Z.T2.ran (pa_cons pe_int pa_nil)) (blkOk_by (N := nLaw) (sc := defScope sLaw) (by decide +kernel)) (fun _ _ _ _ _ => pg_name (i := 6) scLaw.nd rfl (.inl rfl)) (fun _ _ _ _ _ => pts_nil)
            (fun _ _ _ _ _ => pe_callG GV r20 hg rfl W.zV.g W.zV.F.kp W.zV.b .nil pass0 (pa_cons (pv 5) pa_nil))) pa_nil)))) pss_dead pss_nil))))
      (pss_one (ps_ret pe_bl))))), ?_⟩
    have ok : ∀ {n : Nat}, n.ble 100 = true → n ≤ sizeLine := fun h => sm100 (Nat.le_of_ble_eq_true h)
    have nA : nameS ("a" : Str) = true := by decide +kernel
    have kA : ∀ {H' : Hp}, KName K H' (.str "a") true := fun {H'} => by
      have z : KName K H' (.str ("a" : Str)) (nameS ("a" : Str)) := .str _ (ok rfl)
      rwa [nA] at z
    have g1 : Good [(("a" : Str), (1 : Int), (0 : Int))] := ⟨fun r hr => by rw [List.mem_singleton.mp hr]; exact nA, List.nodup_cons.mpr ⟨List.not_mem_nil, List.nodup_nil⟩, by decide⟩
    have g0 : Good [] := ⟨fun r hr => (nomatch hr), List.nodup_nil, by decide⟩
    refine ⟨ok rfl, fun a1 n1 => ?_⟩
    intro x1 d1 nx1 nd1 ne1
    refine make_tab1 (D := D) (K := K) (vs := [.ref a1]) (rows := [(("a" : Str), (1 : Int), (0 : Int))]) (.cons ⟨a1, rfl, upd_same⟩ .nil) g1 nx1 nd1 ne1 fun H2 s2 hT1 => ?_
    intro x2 d2 nx2 nd2 ne2
    refine make_tab1 (D := D) (K := K) (vs := []) (rows := []) .nil g0 nx2 nd2 ne2 fun H3 s3 hT2 => ⟨_, _, rfl, ?_⟩
    have c1 := same_new (o := .tup [V.str "a", V.int 1, V.int 0]) n1
    have sS := Same.seq (c1.trans (s2.trans s3)) hS
    have T1 := hT1.mono s3
    obtain ⟨dx, la, ls, pa, e1, e2, e3, e4⟩ := id T1
    refine ⟨ok rfl, fun b1 m1 => ⟨_, rfl, x1, dx, _, rfl, same_new m1 _ _ e1, x1, _, _, rfl, T1.mono (same_new m1), g1, .inr ⟨(("a" : Str), (1 : Int), (0 : Int)), ⟨b1, rfl, upd_same⟩, nA, fun H4 s4 => ⟨_, rfl, ?_⟩⟩⟩⟩
    have k1 := (same_new (o := .tup [V.str "a", V.int 1, V.int 0]) m1).trans s4
    refine ⟨ok rfl, fun b2 m2 => ⟨_, rfl, x1, dx, _, rfl, (k1.trans (same_new m2)) _ _ e1, x1, _, _, rfl, T1.mono (k1.trans (same_new m2)), g1, .inl ⟨row_false upd_same kA (.bl true) (.int 0) rfl, fun H5 s5 => ⟨_, rfl, ?_⟩⟩⟩⟩
    have k2 := k1.trans ((same_new (o := .tup [V.str "a", V.bl true, V.int 0]) m2).trans s5)
    refine ⟨ok rfl, fun b3 m3 => ⟨_, rfl, x1, dx, _, rfl, (k2.trans (same_new m3)) _ _ e1, x1, _, _, rfl, T1.mono (k2.trans (same_new m3)), g1, .inl ⟨row_false upd_same kA (.int 1) (.bl false) rfl, fun H6 s6 => ⟨_, rfl, ?_⟩⟩⟩⟩
    have k3 := k2.trans ((same_new (o := .tup [V.str "a", V.int 1, V.bl false]) m3).trans s6)
    have T2 := hT2.mono k3
    obtain ⟨ex, lb, ms, pb, f1, f2, f3, f4⟩ := id T2
    refine ⟨_, rfl, x2, ex, _, rfl, f1, x2, [], rfl, T2, 0, rfl, by decide, by decide, ?_⟩
    refine ⟨_, rfl, x2, ex, _, rfl, f1, x2, [], rfl, T2, fun lr vr hlr hvr => ?_⟩
    refine ⟨_, rfl, x2, ex, _, rfl, f1, x2, [], rfl, T2, by decide, fun H7 t7 ys s7 nt7 ht7 hf => ⟨ok rfl, fun td ntd => ?_⟩⟩
    have evr : vr = [] := by
      have : (srt ([] : List RowD)) = [] := by simp [srt]
      rw [this] at hvr
      cases hvr
      rfl
    have eys : ys = [] := List.eq_nil_iff_forall_not_mem.mpr fun z hz => (nomatch (hf.mem z).mp hz)
    subst evr eys
    refine ⟨_, rfl, td, .list [.bool _, .bool _, .bool _, .bool _, .tuple [], .tuple []], rfl, .lst (SqL.of upd_same) (.cons (.bl _) (.cons (.bl _) (.cons (.bl _) (.cons (.bl _) (.cons (.tup (sqT_of (same_new ntd _ _ (s7 _ _ hlr))) .nil) (.cons (.tup (sqT_of (same_new ntd _ _ ht7)) .nil) .nil)))))), hg, rfl, rfl, by simp [PyData.depth, PyData.depthAll], four_len _ _ _ _, ?_⟩
    refine ⟨ok rfl, fun q1 w1 => ⟨ok rfl, fun q2 w2 => ⟨ok rfl, fun q3 w3 => ?_⟩⟩⟩
    have v2 := same_new (o := .tup []) w2
    have v3 := same_new (o := .lst [V.bl true, V.bl false, V.bl false, V.bl false, V.ref q1, V.ref q2]) w3
    refine ⟨q3, .list [.bool true, .bool false, .bool false, .bool false, .tuple [], .tuple []], rfl, .lst (SqL.of upd_same) (.cons (.bl _) (.cons (.bl _) (.cons (.bl _) (.cons (.bl _) (.cons (.tup (sqT_of ((v2.trans v3) _ _ upd_same)) .nil) (.cons (.tup (sqT_of (v3 _ _ upd_same)) .nil) .nil)))))), hg, rfl, rfl, by simp [PyData.depth, PyData.depthAll], four_len _ _ _ _, rfl, false, ?_, iteF ?_⟩
    · rfl
    have w1' := same_new (o := .tup []) w1
    have u := (c1.trans (s2.trans s3)).trans (k3.trans (s7.trans ((same_new ntd).trans (w1'.trans (v2.trans v3)))))
    have hSu := Same.seq u hS
    refine ⟨_, rfl, .ref a, ns.length, rfl, .inl ⟨_, hSu, by rw [List.length_map]⟩, _, _, rfl, _, _, rfl, ?_⟩
    obtain ⟨J, eJ, hJ⟩ : ∃ J : Nat, (if (if (4 : Int) < (ns.length : Nat) then 4 else ((ns.length : Nat) : Int)) > 2 then (if (4 : Int) < (ns.length : Nat) then 4 else ((ns.length : Nat) : Int)) else 2) = (J : Int) ∧ J ≤ 4 := by
      by_cases h4 : (4 : Int) < (ns.length : Nat)
      · exact ⟨4, by rw [if_pos h4]; rfl, by decide⟩
      · rw [if_neg h4]
        by_cases h2 : ((ns.length : Nat) : Int) > 2
        · exact ⟨ns.length, by rw [if_pos h2], by omega⟩
        · exact ⟨2, by rw [if_neg h2]; rfl, by decide⟩
    refine ⟨(J : Int), congrArg (fun z => [V.int z]) eJ, by omega, by omega, ?_⟩
    refine for_it (walk_range (lo := 0) (n := (J : Int).toNat)) (fun i σ H2 => ∃ x1 x2 x3 x4 x5 x6, σ = [some (.ref a), x1, x2, x3, x4, x5, x6] ∧ SqL K H2 a (ns.map V.int)) ⟨_, _, _, _, _, _, rfl, hSu⟩ (fun _ _ _ _ _ => trivial) ?_ ?_
    · rintro i x σ HB HA hi ⟨y1, y2, y3, y4, y5, y6, rfl, hA⟩ ⟨rfl, rfl⟩
      refine ⟨_, rfl, _, rfl, a, ns, i, congrArg (fun z => [V.ref a, V.int z]) (Int.zero_add _), hA, hn, by omega, fun v H4 s4 => ⟨v, rfl, fun p H5 s5 np S5 => ?_⟩⟩
      have hA4 := Same.seq s4 hA
      refine ⟨3, rfl, by decide, by decide, fun D5 n5 => ?_⟩
      have D5p : D5 ≠ p := S5.fresh n5
      refine lc_it (walk_range (lo := 0) (n := (3 : Int).toNat)) (fun j H' => But p H5 H' ∧ Src (300 * j) H' p ∧ H' D5 = some (.lst ((List.range j).map fun _ => V.bl true))) ⟨But.of (same_new n5), S5.mono (same_new n5), upd_same⟩ (fun _ _ _ _ => trivial) ?_ ?_
      · rintro j x Hb Ha hj ⟨b6, S6, h6⟩ ⟨rfl, rfl⟩
        have j3 : j < 3 := hj
        refine ⟨rfl, yesIf ⟨_, rfl, p, _, rfl, S6, by omega, fun H7 b7 S7 => ⟨_, b7 _ _ D5p h6, ?_, fun b o ne e => ?_, (S7.upd D5p).le (by omega), ?_⟩⟩⟩
        · rw [List.length_map, List.length_range, sizeLine_eq]
          omega
        · rw [upd_ne (ne_of_none e n5)]
          exact b7 _ _ ne (b6 _ _ ne e)
        · rw [upd_same, List.range_succ, List.map_append]
          rfl
      · rintro H6 ⟨b6, S6, h6⟩
        refine ⟨D5, [true, true, true], rfl, SqL.of h6, true, rfl, iteF ?_⟩
        exact ⟨_, _, _, _, _, _, rfl, sq_but np hA4 s5 b6⟩
    · rintro σ H2 _
      exact q H2
end
end LR
set_option Elab.async false
set_option linter.all false
set_option maxRecDepth 100000
set_option maxHeartbeats 2000000
namespace Hd
open PySem PySem.Spec PyProof.Rows L2 He
open PySem.W (Frag nsIn findIn kitOne)
/-! ### the head's facts: any looks at the written part, and defs by paths of one's own -/
abbrev Chk := Frag → Bool
/-- one def: where it stands, names, its text, its defaults -/
structure DefP where
  at_ : Frag → Addr
  name : Str
  qual : Str
  st : Stmt
  dfl : List Dv := []
  kwd : List (Str × Dv) := []
def fnP (K : Frag) (a : Addr) : FnW := match K.lookup a with
  | some ⟨_, _, .func fd, _⟩ => some (fd.name, fd.qualname, fd.params, fd.body, fd.scope, fd.globals, fd.closure, fd.builtins)
  | _ => none
def DefP.val (d : DefP) : FnW := some (d.name, d.qual, defArgs d.st, .stmts (defBody d.st), defScope d.st, mainGlobals, [], builtinsNs)
def DefP.dvs (K : Frag) (d : DefP) : List V := d.dfl.map (Dv.v K)
def DefP.kws (K : Frag) (d : DefP) : List (Str × V) := d.kwd.map fun q => (q.1, q.2.v K)
def DefP.ok (K : Frag) (d : DefP) : Bool := PySem.W.keepIn K (.ref (d.at_ K)) && (match K.lookup (d.at_ K) with
  | some ⟨_, _, .func fd, _⟩ => PySem.W.codeIn K fd.code d.qual && (dflB K fd.defaults (d.dvs K) && kwdB K fd.kwdefaults (d.kws K))
  | _ => false)
theorem DefP.funD {K : Frag} {d : DefP} (e : fnP K (d.at_ K) = d.val) (c : d.ok K = true) : ∃ fd, FunD K d.name d.qual (defArgs d.st) (defBody d.st) (defScope d.st) (d.dvs K) (d.kws K) (d.at_ K) fd := by
  obtain ⟨kp, c2⟩ := ba c
  unfold fnP at e
  cases q : K.lookup (d.at_ K) with
  | none =>
    rw [q] at c2
    cases c2
  | some o =>
    obtain ⟨oc, od, dt, osl⟩ := o
    rw [q] at c2 e
    cases dt with
    | func fd =>
      obtain ⟨n1, n2, n3, n4, n5, n6, n7, n8, n9, n10, n11, n12, n13, n14, n15⟩ := fd
      have e2 : (some (n1, n2, n3, n4, n5, n6, n7, n15) : FnW) = some (d.name, d.qual, defArgs d.st, .stmts (defBody d.st), defScope d.st, mainGlobals, [], builtinsNs) := e
      simp only [Option.some.injEq, Prod.mk.injEq] at e2
      obtain ⟨h1, h2, h3, h4, h5, h6, h7, h8⟩ := e2
      subst h1 h2 h3 h4 h5 h6 h7 h8
      have c3 : (PySem.W.codeIn K n13 d.qual && (dflB K n8 (d.dvs K) && kwdB K n9 (d.kws K))) = true := c2
      obtain ⟨k1, k2⟩ := ba c3
      obtain ⟨k3, k4⟩ := ba k2
      exact ⟨_, ⟨oc, od, n8, n9, n10, n11, n12, n13, n14, osl, rfl, q, k1, dflB_ok k3, kwdB_ok k4⟩, kp⟩
    | _ => cases c2
theorem FunD.plain {K : Frag} {x qual : Str} {st : Stmt} {f : Addr} {fd : FuncData} {kws : List (Str × V)} (F : FunD K x qual (defArgs st) (defBody st) (defScope st) [] kws f fd) : Fun K x qual st f fd := by
  obtain ⟨⟨oc, od, dV, kV, doc, pm, an, cdv, ct, osl, e, lk, hcd, dd, kk⟩, kp⟩ := F
  rcases dd with ⟨_, rfl⟩ | ⟨n, _⟩
  · exact ⟨⟨oc, od, kV, doc, pm, an, cdv, ct, osl, e, lk, hcd⟩, kp⟩
  · exact absurd rfl n
def obsP (fa : List Chk) (fn : List DefP) (K : Frag) : AlD := ((fa.all fun f => f K) && fn.all fun d => d.ok K, fn.map fun d => fnP K (d.at_ K))
def valP (fn : List DefP) : AlD := (true, fn.map DefP.val)
def SaysP (fa : List Chk) (fn : List DefP) (K : Frag) : Prop := obsP fa fn K = valP fn
def obsPG (n : Nat) (fa : List Chk) (fn : List DefP) (g : Addr → Option Obj) : AlD := obsP fa fn (frG g (cStatics :: asD g n))
def hookP (n : Nat) (fa : List Chk) (fn : List DefP) : PySem.W.Hook where
  α := AlD
  obs := fun s => obsPG n fa fn s.heap.get?
  val := fun _ => valP fn
  says := fun _ h => ∃ K : Frag, K.In h ∧ SaysP fa fn K
  of := fun _ _ e => ⟨_, frG_in, e⟩
  keeps := fun _ _ _ ⟨K, hK, c⟩ k => ⟨K, PySem.W.Frag.In.keeps hK k, c⟩
theorem obsPG_eq {n : Nat} {fa : List Chk} {fn : List DefP} {g : Addr → Option Obj} {s : Shared} (h : ∀ a, g a = s.heap.get? a) : obsPG n fa fn g = (hookP n fa fn).obs s := by
  have e : g = s.heap.get? := funext h
  rw [e] <;> rfl
section
variable {fa : List Chk} {fn : List DefP} {K : Frag}
theorem SaysP.fact (c : SaysP fa fn K) (i : Nat) {f : Chk} (h : fa[i]? = some f := by rfl) : f K = true := by
  have c1 := (ba (show ((fa.all fun f => f K) && fn.all fun d => d.ok K) = true from congrArg (fun z : AlD => z.1) c)).1
  exact List.all_eq_true.mp c1 f (List.mem_of_getElem? h)
theorem SaysP.defD (c : SaysP fa fn K) (i : Nat) {d : DefP} (h : fn[i]? = some d := by rfl) : ∃ fd, FunD K d.name d.qual (defArgs d.st) (defBody d.st) (defScope d.st) (d.dvs K) (d.kws K) (d.at_ K) fd := by
  have c2 := (ba (show ((fa.all fun f => f K) && fn.all fun d => d.ok K) = true from congrArg (fun z : AlD => z.1) c)).2
  have e : fn.map (fun d => fnP K (d.at_ K)) = fn.map DefP.val := congrArg (fun z : AlD => z.2) c
  have e2 : (fn.map fun d => fnP K (d.at_ K))[i]? = (fn.map DefP.val)[i]? := by rw [e]
  rw [List.getElem?_map, List.getElem?_map, h] at e2
  exact DefP.funD (Option.some.inj e2) (List.all_eq_true.mp c2 d (List.mem_of_getElem? h))
theorem SaysP.def_ (c : SaysP fa fn K) (i : Nat) {at_ : Frag → Addr} {x q : Str} {st : Stmt} (h : fn[i]? = some ⟨at_, x, q, st, [], []⟩ := by rfl) : ∃ fd, Fun K x q st (at_ K) fd := by
  obtain ⟨fd, F⟩ := c.defD i h
  exact ⟨fd, FunD.plain F⟩
end
/-! ### paths -/
def pg (x : Str) : Frag → Addr := fun K => ga K x
def pm (x m : Str) : Frag → Addr := fun K => ma K (ga K x) m
/-- the getter of a property -/
def recA (K : Frag) (p : Addr) (T : String) : Addr := match PySem.W.recIn K p T with
  | some (.ref g :: _) => g
  | _ => 0
def pp (x m : Str) : Frag → Addr := fun K => recA K (ma K (ga K x) m) "property"
def ps (x m : Str) : Frag → Addr := fun K => recA K (ma K (ga K x) m) "staticmethod"
/-! ### looks -/
def cFa (f : Fa) : Chk := fun K => f.ok K
def cSpec (x m : Str) : Chk := fun K => eqO (findIn K (.ref (ga K x)) m) (some (some (.ref (ma K (ga K x) m)))) && PySem.W.isFn K (.ref (ma K (ga K x) m))
theorem spec_ok {K : Frag} {x m : Str} (h : cSpec x m K = true) : Spec1 K (ga K x) m (pm x m K) := ⟨eqO_ok (ba h).1, (ba h).2⟩
def cProp (x m : Str) : Chk := fun K => eqO (findIn K (.ref (ga K x)) m) (some (some (.ref (ma K (ga K x) m)))) && (eqO (PySem.W.specialIn K (.ref (ma K (ga K x) m)) "__get__") (some (some (.builtin "property.__get__"))) &&
  (decide (PySem.W.takesIn K (.ref (ma K (ga K x) m)) = some true) && (match PySem.W.recIn K (ma K (ga K x) m) "property" with
    | some (.ref g :: _) => true
    | _ => false)))
theorem rec_is {K : Frag} {p : Addr} {T : String} (h : (match PySem.W.recIn K p T with
    | some (.ref g :: _) => true
    | _ => false) = true) : ∃ rest, PySem.W.recIn K p T = some (.ref (recA K p T) :: rest) := by
  unfold recA
  cases e : PySem.W.recIn K p T with
  | none =>
    rw [e] at h
    cases h
  | some l =>
    rw [e] at h
    cases l with
    | nil => cases h
    | cons v r =>
      cases v with
      | ref g => exact ⟨r, rfl⟩
      | _ => cases h
theorem prop_ok {K : Frag} {x m : Str} (h : cProp x m K = true) : PropOf K (ga K x) m (pm x m K) (pp x m K) := by
  obtain ⟨h1, h⟩ := ba h
  obtain ⟨h2, h⟩ := ba h
  obtain ⟨h3, h4⟩ := ba h
  exact ⟨eqO_ok h1, eqO_ok h2, of_decide_eq_true h3, rec_is h4⟩
def cStat (x m : Str) : Chk := fun K => (match PySem.W.findCls K (.ref (ga K x)) (.type "type") m with
    | some (.get (.builtin b) (.ref p) .none (.ref C)) => decide (b = "staticmethod.__get__") && (decide (p = ma K (ga K x) m) && decide (C = ga K x))
    | _ => false) && ((match PySem.W.recIn K (ma K (ga K x) m) "staticmethod" with
    | some (.ref g :: _) => true
    | _ => false) && PySem.W.keepIn K (.ref (ps x m K)))
theorem stat_ok {K : Frag} {x m : Str} (h : cStat x m K = true) : SMet K (ga K x) (.type "type") m (pm x m K) (ps x m K) := by
  obtain ⟨h1, h⟩ := ba h
  obtain ⟨h2, h3⟩ := ba h
  refine ⟨?_, rec_is h2, h3⟩
  split at h1
  · rename_i b p C e
    obtain ⟨a1, a⟩ := ba h1
    obtain ⟨a2, a3⟩ := ba a
    rw [e, of_decide_eq_true a1, of_decide_eq_true a2, of_decide_eq_true a3]
    rfl
  · cases h1
def cRead (x : Str) : Chk := fun K => PySem.W.readsIn K (ga K x) (.type "type") && eqO (PySem.W.specialIn K (.ref (ga K x)) "__getattribute__") (some (some (.builtin "type.__getattribute__")))
theorem read_ok {K : Frag} {x : Str} (h : cRead x K = true) : ClX.CRead K (ga K x) (.type "type") := ⟨(ba h).1, eqO_ok (ba h).2⟩
def cFind (x m : Str) (r : Option Value) : Chk := fun K => eqO (findIn K (.ref (ga K x)) m) (some r)
theorem find_ok {K : Frag} {x m : Str} {r : Option Value} (h : cFind x m r K = true) : findIn K (.ref (ga K x)) m = some r := eqO_ok h
/-- of a class's own class attribute: what isinstance asks -/
def cIs (x : Str) : Chk := fun K => eqO (findIn K (.ref (ga K x)) "__class__") (some (some (.builtin "object.__class__"))) && (eqO (PySem.W.specialIn K (.builtin "object.__class__") "__get__") (some (some (.builtin "getset_descriptor.__get__"))) &&
  (decide (PySem.W.takesIn K (.builtin "object.__class__") = some true) && decide (PySem.W.mroIn K (ga K x) (.type "object") = some true)))
def cKit (a c : Frag → Value) (b : Bool) : Chk := fun K => decide (kitOne K (a K) (c K) = some b)
theorem kit_ok {K : Frag} {a c : Frag → Value} {b : Bool} (h : cKit a c b K = true) : kitOne K (a K) (c K) = some b := of_decide_eq_true h
def cNot (x : Str) (t : Frag → Value) : Chk := fun K => PySem.W.notFirst K (ga K x) (t K)
end Hd
set_option Elab.async false
set_option linter.all false
set_option maxRecDepth 100000
set_option maxHeartbeats 0
namespace LR
open PySem L2
open PySem.W (Frag nsIn findIn kitOne)
def fnsE : List Hd.DefP := [⟨Hd.pg "check_rows", "check_rows", "check_rows", sCheck, [], []⟩,
  ⟨Hd.pg "is_row", "is_row", "is_row", sRow, [], []⟩,
  ⟨Hd.pg "is_integer", "is_integer", "is_integer", sInt, [], []⟩,
  ⟨Hd.pg "is_name", "is_name", "is_name", sName, [], []⟩,
  ⟨Hd.pg "_law_pick", "_law_pick", "_law_pick", sPick, [], []⟩,
  ⟨Hd.pg "_law_one", "_law_one", "_law_one", sOne, [], []⟩,
  ⟨Hd.pg "_law_tag", "_law_tag", "_law_tag", sTag, [], []⟩,
  ⟨Hd.pg "_law_tags", "_law_tags", "_law_tags", sTags, [], []⟩,
  ⟨Hd.pg "_law_lines", "_law_lines", "_law_lines", sLines, [], []⟩,
  ⟨Hd.pg "_law_mixed", "_law_mixed", "_law_mixed", sMix, [], []⟩,
  ⟨Hd.pg "_law_table", "_law_table", "_law_table", sTable, [], []⟩,
  ⟨Hd.pg "_law_shown", "_law_shown", "_law_shown", sShow, [], []⟩,
  ⟨Hd.pg "_law_due", "_law_due", "_law_due", sDue, [], []⟩,
  ⟨Hd.pg "_law_strangers", "_law_strangers", "_law_strangers", sOdd, [], []⟩,
  ⟨Hd.pg "_law_right", "_law_right", "_law_right", sRight, [], []⟩,
  ⟨Hd.pg "_law_number", "_law_number", "_law_number", sNum, [], []⟩,
  ⟨Hd.pg "_law_source", "_law_source", "_law_source", sSrc, [], []⟩,
  ⟨Hd.pg "law", "law", "law", sLaw, [], []⟩,
  ⟨Hd.pm "Table" "__init__", "__init__", "Table.__init__", item sTab 0, [], []⟩,
  ⟨Hd.ps "Table" "of", "of", "Table.of", item sTab 1, [], []⟩,
  ⟨Hd.pp "Table" "rows", "rows", "Table.rows", item sTab 2, [], []⟩,
  ⟨Hd.pp "Table" "feeds", "feeds", "Table.feeds", item sTab 3, [], []⟩,
  ⟨Hd.pm "Table" "__len__", "__len__", "Table.__len__", item sTab 11, [], []⟩,
  ⟨Hd.pm "Table" "__contains__", "__contains__", "Table.__contains__", item sTab 13, [], []⟩,
  ⟨Hd.pm "Table" "__eq__", "__eq__", "Table.__eq__", item sTab 14, [], []⟩,
  ⟨Hd.pm "Table" "__repr__", "__repr__", "Table.__repr__", item sTab 15, [], []⟩]
def faE : List Hd.Chk := [Hd.cFa (.free "isinstance"),
  Hd.cFa (.free "int"),
  Hd.cFa (.free "bool"),
  Hd.cFa (.free "str"),
  Hd.cFa (.free "tuple"),
  Hd.cFa (.free "len"),
  Hd.cFa (.free "all"),
  Hd.cFa (.free "enumerate"),
  Hd.cFa (.free "sorted"),
  Hd.cFa (.free "abs"),
  Hd.cFa (.free "range"),
  Hd.cFa (.free "list"),
  Hd.cFa (.free "set"),
  Hd.cFa (.free "repr"),
  Hd.cFa (.free "max"),
  Hd.cFa (.free "min"),
  Hd.cFa (.glo "check_rows"),
  Hd.cFa (.glo "is_row"),
  Hd.cFa (.glo "is_integer"),
  Hd.cFa (.glo "is_name"),
  Hd.cFa (.glo "_law_pick"),
  Hd.cFa (.glo "_law_one"),
  Hd.cFa (.glo "_law_tag"),
  Hd.cFa (.glo "_law_tags"),
  Hd.cFa (.glo "_law_lines"),
  Hd.cFa (.glo "_law_mixed"),
  Hd.cFa (.glo "_law_table"),
  Hd.cFa (.glo "_law_shown"),
  Hd.cFa (.glo "_law_due"),
  Hd.cFa (.glo "_law_strangers"),
  Hd.cFa (.glo "_law_right"),
  Hd.cFa (.glo "_law_number"),
  Hd.cFa (.glo "_law_source"),
  Hd.cFa (.glo "law"),
  Hd.cFa (.glo "Table"),
  Hd.cFa (.str "LETTERS" lets),
  Hd.cFa (.str "SIGNS" sgns),
  Hd.cFa (.int "MAX_LENGTH" 8),
  Hd.cFa (.cls "Table"),
  Hd.cFa (.noat "Table" "lines"),
  Hd.cFa (.noat "Table" "places"),
  Hd.cFa (.mkr "Table"),
  Hd.cRead "Table",
  Hd.cStat "Table" "of",
  Hd.cProp "Table" "rows",
  Hd.cProp "Table" "feeds",
  Hd.cSpec "Table" "__len__",
  Hd.cSpec "Table" "__contains__",
  Hd.cSpec "Table" "__eq__",
  Hd.cSpec "Table" "__repr__",
  Hd.cFind "Table" "__bool__" none,
  Hd.cFind "Table" "__ne__" (some (.builtin "object.__ne__")),
  Hd.cIs "Table",
  Hd.cKit (fun K => .ref (He.ga K "Table")) (fun K => .ref (He.ga K "Table")) true,
  Hd.cKit (fun _ => .type "tuple") (fun K => .ref (He.ga K "Table")) false,
  Hd.cKit (fun _ => .type "int") (fun K => .ref (He.ga K "Table")) false,
  Hd.cNot "Table" (fun K => .ref (He.ga K "Table")),
  Hd.cNot "Table" (fun _ => .type "tuple"),
  Hd.cNot "Table" (fun _ => .type "int")]
def loose0 : List Str := ["_wall", "LatestError", "InvalidRows", "LETTERS", "SIGNS", "MAX_LENGTH", "is_integer", "is_name", "is_row", "check_rows", "Table", "_law_number", "_law_source", "_law_pick", "_law_one", "_law_tag", "_law_tags", "_law_lines", "_law_mixed", "_law_table", "_law_shown", "_law_due", "_law_strangers", "_law_right"]
def looseE : List Str := loose0
abbrev RE : PySem.W.OpenRow := PySem.W.OpenLaw.row PySem.Challenge.rw_latestrows_k01_tables_made
abbrev hkE : PySem.W.Hook := Hd.hookP 6 faE fnsE
def obE (s : PySem.W.SharedT) : He.AlD := Hd.obsPG 6 faE fnsE (HandSHeadRun.getT s)
theorem obE_eq (s : PySem.W.SharedT) : obE s = hkE.obs s.abs := Hd.obsPG_eq (HandSHeadRun.getT_eq s)
theorem runE (w : World) : HandSHeadRun.RunEq RE (PySem.W.view RE.prog [28]) hkE obE 6000 looseE w := by
  intro os
  kernel_rfl
theorem bk_of {K : Frag} {f : Addr} {fd : FuncData} (F : Fun K "of" "Table.of" (item sTab 1) f fd) : KBinds K fd ["rows"] ["rows"] (fun us ws => us ++ ws) (fun vs zs => vs ++ zs) := by
  obtain ⟨oc, od, kV, doc, pm, an, cdv, ct, osl, rfl, lk, hcd⟩ := F.ex
  refine ⟨fun s us ws _ hl => ?_, fun a b => a.append b⟩
  match us, ws, hl with
  | [], [w], _ => exact .of_eq rfl
  | [u], [], _ => exact .of_eq rfl
theorem factsE {P : Program} {w : World} {K : Frag} {h : Heap} {mg : Str → Option Value} {f : Addr} (X : K.In h) (G : h.Ns mainGlobals mg) (hfa : mg ("law" : Str) = some (.ref f)) (c : Hd.SaysP faE fnsE K) :
    ∃ fd : FuncData, (∀ (s : Shared) (v : Value), BindsTo s fd ⟨[v], []⟩ [("_law_script", v)]) ∧ ∀ base : Heap, K.In base → base.Ns mainGlobals mg → FnOkG P w K mg base CX0 30 f fd ["_law_script"] (spLaw K) := by
  obtain ⟨d0, F0⟩ := c.def_ 0 (at_ := Hd.pg "check_rows") (x := "check_rows") (q := "check_rows") (st := sCheck) rfl
  have b0 : Binds K d0 ["rows"] [] := F0.binds fun _ _ _ _ _ _ us hl => match us, hl with | [_], _ => rfl
  have g0 := He.glo_ok X G (c.fact 16 (f := Hd.cFa (.glo "check_rows")) rfl)
  obtain ⟨d1, F1⟩ := c.def_ 1 (at_ := Hd.pg "is_row") (x := "is_row") (q := "is_row") (st := sRow) rfl
  have b1 : Binds K d1 ["value"] [] := F1.binds fun _ _ _ _ _ _ us hl => match us, hl with | [_], _ => rfl
  have g1 := He.glo_ok X G (c.fact 17 (f := Hd.cFa (.glo "is_row")) rfl)
  obtain ⟨d2, F2⟩ := c.def_ 2 (at_ := Hd.pg "is_integer") (x := "is_integer") (q := "is_integer") (st := sInt) rfl
  have b2 : Binds K d2 ["value"] [] := F2.binds fun _ _ _ _ _ _ us hl => match us, hl with | [_], _ => rfl
  have g2 := He.glo_ok X G (c.fact 18 (f := Hd.cFa (.glo "is_integer")) rfl)
  obtain ⟨d3, F3⟩ := c.def_ 3 (at_ := Hd.pg "is_name") (x := "is_name") (q := "is_name") (st := sName) rfl
  have b3 : Binds K d3 ["value"] [] := F3.binds fun _ _ _ _ _ _ us hl => match us, hl with | [_], _ => rfl
  have g3 := He.glo_ok X G (c.fact 19 (f := Hd.cFa (.glo "is_name")) rfl)
  obtain ⟨d4, F4⟩ := c.def_ 4 (at_ := Hd.pg "_law_pick") (x := "_law_pick") (q := "_law_pick") (st := sPick) rfl
  have b4 : Binds K d4 ["_law_source_here", "_law_many"] [] := F4.binds fun _ _ _ _ _ _ us hl => match us, hl with | [_, _], _ => rfl
  have g4 := He.glo_ok X G (c.fact 20 (f := Hd.cFa (.glo "_law_pick")) rfl)
  obtain ⟨d5, F5⟩ := c.def_ 5 (at_ := Hd.pg "_law_one") (x := "_law_one") (q := "_law_one") (st := sOne) rfl
  have b5 : Binds K d5 ["_law_source_here", "_law_things"] [] := F5.binds fun _ _ _ _ _ _ us hl => match us, hl with | [_, _], _ => rfl
  have g5 := He.glo_ok X G (c.fact 21 (f := Hd.cFa (.glo "_law_one")) rfl)
  obtain ⟨d6, F6⟩ := c.def_ 6 (at_ := Hd.pg "_law_tag") (x := "_law_tag") (q := "_law_tag") (st := sTag) rfl
  have b6 : Binds K d6 ["_law_source_here"] [] := F6.binds fun _ _ _ _ _ _ us hl => match us, hl with | [_], _ => rfl
  have g6 := He.glo_ok X G (c.fact 22 (f := Hd.cFa (.glo "_law_tag")) rfl)
  obtain ⟨d7, F7⟩ := c.def_ 7 (at_ := Hd.pg "_law_tags") (x := "_law_tags") (q := "_law_tags") (st := sTags) rfl
  have b7 : Binds K d7 ["_law_source_here", "_law_many"] [] := F7.binds fun _ _ _ _ _ _ us hl => match us, hl with | [_, _], _ => rfl
  have g7 := He.glo_ok X G (c.fact 23 (f := Hd.cFa (.glo "_law_tags")) rfl)
  obtain ⟨d8, F8⟩ := c.def_ 8 (at_ := Hd.pg "_law_lines") (x := "_law_lines") (q := "_law_lines") (st := sLines) rfl
  have b8 : Binds K d8 ["_law_source_here", "_law_tags_here", "_law_most"] [] := F8.binds fun _ _ _ _ _ _ us hl => match us, hl with | [_, _, _], _ => rfl
  have g8 := He.glo_ok X G (c.fact 24 (f := Hd.cFa (.glo "_law_lines")) rfl)
  obtain ⟨d9, F9⟩ := c.def_ 9 (at_ := Hd.pg "_law_mixed") (x := "_law_mixed") (q := "_law_mixed") (st := sMix) rfl
  have b9 : Binds K d9 ["_law_source_here", "_law_things"] [] := F9.binds fun _ _ _ _ _ _ us hl => match us, hl with | [_, _], _ => rfl
  have g9 := He.glo_ok X G (c.fact 25 (f := Hd.cFa (.glo "_law_mixed")) rfl)
  obtain ⟨d10, F10⟩ := c.def_ 10 (at_ := Hd.pg "_law_table") (x := "_law_table") (q := "_law_table") (st := sTable) rfl
  have b10 : Binds K d10 ["_law_lines_here"] [] := F10.binds fun _ _ _ _ _ _ us hl => match us, hl with | [_], _ => rfl
  have g10 := He.glo_ok X G (c.fact 26 (f := Hd.cFa (.glo "_law_table")) rfl)
  obtain ⟨d11, F11⟩ := c.def_ 11 (at_ := Hd.pg "_law_shown") (x := "_law_shown") (q := "_law_shown") (st := sShow) rfl
  have b11 : Binds K d11 ["_law_sheet"] [] := F11.binds fun _ _ _ _ _ _ us hl => match us, hl with | [_], _ => rfl
  have g11 := He.glo_ok X G (c.fact 27 (f := Hd.cFa (.glo "_law_shown")) rfl)
  obtain ⟨d12, F12⟩ := c.def_ 12 (at_ := Hd.pg "_law_due") (x := "_law_due") (q := "_law_due") (st := sDue) rfl
  have b12 : Binds K d12 ["_law_lines_here"] [] := F12.binds fun _ _ _ _ _ _ us hl => match us, hl with | [_], _ => rfl
  have g12 := He.glo_ok X G (c.fact 28 (f := Hd.cFa (.glo "_law_due")) rfl)
  obtain ⟨d13, F13⟩ := c.def_ 13 (at_ := Hd.pg "_law_strangers") (x := "_law_strangers") (q := "_law_strangers") (st := sOdd) rfl
  have b13 : Binds K d13 ["_law_lines_here"] [] := F13.binds fun _ _ _ _ _ _ us hl => match us, hl with | [_], _ => rfl
  have g13 := He.glo_ok X G (c.fact 29 (f := Hd.cFa (.glo "_law_strangers")) rfl)
  obtain ⟨d14, F14⟩ := c.def_ 14 (at_ := Hd.pg "_law_right") (x := "_law_right") (q := "_law_right") (st := sRight) rfl
  have b14 : Binds K d14 ["_law_source_here"] [] := F14.binds fun _ _ _ _ _ _ us hl => match us, hl with | [_], _ => rfl
  have g14 := He.glo_ok X G (c.fact 30 (f := Hd.cFa (.glo "_law_right")) rfl)
  obtain ⟨d15, F15⟩ := c.def_ 15 (at_ := Hd.pg "_law_number") (x := "_law_number") (q := "_law_number") (st := sNum) rfl
  have b15 : Binds K d15 ["_law_script", "_law_k"] [] := F15.binds fun _ _ _ _ _ _ us hl => match us, hl with | [_, _], _ => rfl
  have g15 := He.glo_ok X G (c.fact 31 (f := Hd.cFa (.glo "_law_number")) rfl)
  obtain ⟨d16, F16⟩ := c.def_ 16 (at_ := Hd.pg "_law_source") (x := "_law_source") (q := "_law_source") (st := sSrc) rfl
  have b16 : Binds K d16 ["_law_cell"] [] := F16.binds fun _ _ _ _ _ _ us hl => match us, hl with | [_], _ => rfl
  have g16 := He.glo_ok X G (c.fact 32 (f := Hd.cFa (.glo "_law_source")) rfl)
  obtain ⟨d17, F17⟩ := c.def_ 17 (at_ := Hd.pg "law") (x := "law") (q := "law") (st := sLaw) rfl
  have b17 : Binds K d17 ["_law_script"] [] := F17.binds fun _ _ _ _ _ _ us hl => match us, hl with | [_], _ => rfl
  have g17 := He.glo_ok X G (c.fact 33 (f := Hd.cFa (.glo "law")) rfl)
  obtain ⟨e0, M0⟩ := c.def_ 18 (at_ := Hd.pm "Table" "__init__") (x := "__init__") (q := "Table.__init__") (st := item sTab 0) rfl
  obtain ⟨e1, M1⟩ := c.def_ 19 (at_ := Hd.ps "Table" "of") (x := "of") (q := "Table.of") (st := item sTab 1) rfl
  have m1 : Binds K e1 ["rows"] [] := M1.binds fun _ _ _ _ _ _ us hl => match us, hl with | [_], _ => rfl
  obtain ⟨e2, M2⟩ := c.def_ 20 (at_ := Hd.pp "Table" "rows") (x := "rows") (q := "Table.rows") (st := item sTab 2) rfl
  have m2 : Binds K e2 ["self"] [] := M2.binds fun _ _ _ _ _ _ us hl => match us, hl with | [_], _ => rfl
  obtain ⟨e3, M3⟩ := c.def_ 21 (at_ := Hd.pp "Table" "feeds") (x := "feeds") (q := "Table.feeds") (st := item sTab 3) rfl
  have m3 : Binds K e3 ["self"] [] := M3.binds fun _ _ _ _ _ _ us hl => match us, hl with | [_], _ => rfl
  obtain ⟨e4, M4⟩ := c.def_ 22 (at_ := Hd.pm "Table" "__len__") (x := "__len__") (q := "Table.__len__") (st := item sTab 11) rfl
  have m4 : Binds K e4 ["self"] [] := M4.binds fun _ _ _ _ _ _ us hl => match us, hl with | [_], _ => rfl
  obtain ⟨e5, M5⟩ := c.def_ 23 (at_ := Hd.pm "Table" "__contains__") (x := "__contains__") (q := "Table.__contains__") (st := item sTab 13) rfl
  have m5 : Binds K e5 ["self", "value"] [] := M5.binds fun _ _ _ _ _ _ us hl => match us, hl with | [_, _], _ => rfl
  obtain ⟨e6, M6⟩ := c.def_ 24 (at_ := Hd.pm "Table" "__eq__") (x := "__eq__") (q := "Table.__eq__") (st := item sTab 14) rfl
  have m6 : Binds K e6 ["self", "other"] [] := M6.binds fun _ _ _ _ _ _ us hl => match us, hl with | [_, _], _ => rfl
  obtain ⟨e7, M7⟩ := c.def_ 25 (at_ := Hd.pm "Table" "__repr__") (x := "__repr__") (q := "Table.__repr__") (st := item sTab 15) rfl
  have m7 : Binds K e7 ["self"] [] := M7.binds fun _ _ _ _ _ _ us hl => match us, hl with | [_], _ => rfl
  have T : Bl mg := ⟨He.free_ok X G (c.fact 0 (f := Hd.cFa (.free "isinstance")) rfl), He.free_ok X G (c.fact 1 (f := Hd.cFa (.free "int")) rfl), He.free_ok X G (c.fact 2 (f := Hd.cFa (.free "bool")) rfl), He.free_ok X G (c.fact 3 (f := Hd.cFa (.free "str")) rfl), He.free_ok X G (c.fact 4 (f := Hd.cFa (.free "tuple")) rfl), He.free_ok X G (c.fact 5 (f := Hd.cFa (.free "len")) rfl), He.free_ok X G (c.fact 6 (f := Hd.cFa (.free "all")) rfl), He.free_ok X G (c.fact 7 (f := Hd.cFa (.free "enumerate")) rfl), He.free_ok X G (c.fact 8 (f := Hd.cFa (.free "sorted")) rfl)⟩
  have T2 : Bl2 mg := ⟨He.free_ok X G (c.fact 9 (f := Hd.cFa (.free "abs")) rfl), He.free_ok X G (c.fact 10 (f := Hd.cFa (.free "range")) rfl), He.free_ok X G (c.fact 11 (f := Hd.cFa (.free "list")) rfl), He.free_ok X G (c.fact 12 (f := Hd.cFa (.free "set")) rfl), He.free_ok X G (c.fact 13 (f := Hd.cFa (.free "repr")) rfl), He.free_ok X G (c.fact 14 (f := Hd.cFa (.free "max")) rfl), He.free_ok X G (c.fact 15 (f := Hd.cFa (.free "min")) rfl)⟩
  have N : Nm mg := ⟨He.str_ok X G (c.fact 35 (f := Hd.cFa (.str "LETTERS" lets)) rfl), He.str_ok X G (c.fact 36 (f := Hd.cFa (.str "SIGNS" sgns)) rfl), He.int_ok X G (c.fact 37 (f := Hd.cFa (.int "MAX_LENGTH" 8)) rfl)⟩
  have Z : Prog K mg _ _ _ _ _ _ _ _ := ⟨T, N, ⟨F0, b0, g0⟩, ⟨F1, b1, g1⟩, ⟨F2, b2, g2⟩, ⟨F3, b3, g3⟩⟩
  have cI := (c.fact 52 (f := Hd.cIs "Table") rfl)
  obtain ⟨i1, cI⟩ := He.ba cI
  obtain ⟨i2, cI⟩ := He.ba cI
  obtain ⟨i3, i4⟩ := He.ba cI
  have B : Tab K mg ⟨He.ga K "Table", Hd.pm "Table" "__init__" K, Hd.ps "Table" "of" K, Hd.pp "Table" "rows" K, Hd.pp "Table" "feeds" K, Hd.pm "Table" "__len__" K, Hd.pm "Table" "__contains__" K, Hd.pm "Table" "__eq__" K, Hd.pm "Table" "__repr__" K, Hd.pm "Table" "of" K, Hd.pm "Table" "rows" K, Hd.pm "Table" "feeds" K, Hd.pg "check_rows" K, Hd.pg "is_row" K, Hd.pg "is_integer" K, Hd.pg "is_name" K, .type "type", e0, e1, e2, e3, e4, e5, e6, e7, d0, d1, d2, d3⟩ :=
    { Z := Z
      c := ⟨He.cls_ok (c.fact 38 (f := Hd.cFa (.cls "Table")) rfl), He.noat_ok (c.fact 39 (f := Hd.cFa (.noat "Table" "lines")) rfl), He.noat_ok (c.fact 40 (f := Hd.cFa (.noat "Table" "places")) rfl), He.glo_ok X G (c.fact 34 (f := Hd.cFa (.glo "Table")) rfl)⟩
      make := He.mkr_ok (c.fact 41 (f := Hd.cFa (.mkr "Table")) rfl)
      zi := M0
      zo := M1
      bo := m1
      bk := bk_of M1
      cr := Hd.read_ok (c.fact 42 (f := Hd.cRead "Table") rfl)
      sm := Hd.stat_ok (c.fact 43 (f := Hd.cStat "Table" "of") rfl)
      zr := M2
      br := m2
      pr := Hd.prop_ok (c.fact 44 (f := Hd.cProp "Table" "rows") rfl)
      zf := M3
      bf := m3
      pf := Hd.prop_ok (c.fact 45 (f := Hd.cProp "Table" "feeds") rfl)
      zl := M4
      bl := m4
      sl := Hd.spec_ok (c.fact 46 (f := Hd.cSpec "Table" "__len__") rfl)
      nb := Hd.find_ok (c.fact 50 (f := Hd.cFind "Table" "__bool__" none) rfl)
      zc := M5
      bc := m5
      sc := Hd.spec_ok (c.fact 47 (f := Hd.cSpec "Table" "__contains__") rfl)
      ze := M6
      be := m6
      se := Hd.spec_ok (c.fact 48 (f := Hd.cSpec "Table" "__eq__") rfl)
      ne := Hd.find_ok (c.fact 51 (f := Hd.cFind "Table" "__ne__" (some (.builtin "object.__ne__"))) rfl)
      zp := M7
      bp := m7
      sp := Hd.spec_ok (c.fact 49 (f := Hd.cSpec "Table" "__repr__") rfl)
      kit := Hd.kit_ok (c.fact 53 (f := Hd.cKit (fun K => .ref (He.ga K "Table")) (fun K => .ref (He.ga K "Table")) true) rfl)
      ha := He.eqO_ok i1
      hn := He.eqO_ok i2
      htk := of_decide_eq_true i3
      hm := of_decide_eq_true i4
      nfC := (c.fact 56 (f := Hd.cNot "Table" (fun K => .ref (He.ga K "Table"))) rfl)
      nfT := (c.fact 57 (f := Hd.cNot "Table" (fun _ => .type "tuple")) rfl)
      nfI := (c.fact 58 (f := Hd.cNot "Table" (fun _ => .type "int")) rfl)
      ktT := Hd.kit_ok (c.fact 54 (f := Hd.cKit (fun _ => .type "tuple") (fun K => .ref (He.ga K "Table")) false) rfl)
      ktI := Hd.kit_ok (c.fact 55 (f := Hd.cKit (fun _ => .type "int") (fun K => .ref (He.ga K "Table")) false) rfl) }
  have Y : LawF K mg ⟨Hd.pg "_law_pick" K, Hd.pg "_law_one" K, Hd.pg "_law_tag" K, Hd.pg "_law_tags" K, Hd.pg "_law_lines" K, Hd.pg "_law_mixed" K, Hd.pg "_law_table" K, Hd.pg "_law_shown" K, Hd.pg "_law_due" K, Hd.pg "_law_strangers" K, Hd.pg "_law_right" K, Hd.pg "_law_number" K, Hd.pg "_law_source" K, d4, d5, d6, d7, d8, d9, d10, d11, d12, d13, d14, d15, d16⟩ := ⟨⟨T, T2, ⟨F4, b4, g4⟩, ⟨F5, b5, g5⟩⟩, ⟨F6, b6, g6⟩, ⟨F7, b7, g7⟩, ⟨F8, b8, g8⟩, ⟨F9, b9, g9⟩, ⟨F10, b10, g10⟩, ⟨F11, b11, g11⟩, ⟨F12, b12, g12⟩, ⟨F13, b13, g13⟩⟩
  have W : LawE K mg ⟨Hd.pg "_law_pick" K, Hd.pg "_law_one" K, Hd.pg "_law_tag" K, Hd.pg "_law_tags" K, Hd.pg "_law_lines" K, Hd.pg "_law_mixed" K, Hd.pg "_law_table" K, Hd.pg "_law_shown" K, Hd.pg "_law_due" K, Hd.pg "_law_strangers" K, Hd.pg "_law_right" K, Hd.pg "_law_number" K, Hd.pg "_law_source" K, d4, d5, d6, d7, d8, d9, d10, d11, d12, d13, d14, d15, d16⟩ := ⟨⟨F14, b14, g14⟩, ⟨F15, b15, g15⟩, ⟨F16, b16, g16⟩⟩
  have e := hfa.symm.trans g17
  cases e
  exact ⟨d17, fun s v => by
    obtain ⟨oc, od, kV, doc, pm, an, cdv, ct, osl, rfl, lk, hcd⟩ := F17.ex
    exact .of_eq rfl, fun base _ _ => ok_law F17 B Y W⟩
end LR
open PySem PySem.W PySem.Calls PyProof.Rows
set_option maxRecDepth 100000 in
set_option maxHeartbeats 0 in
theorem PySem.Challenge.cw_latestrows_k01_tables_made_holds : PySem.Challenge.rw_latestrows_k01_tables_made.Holds := by
  w_on; o_law
  refine HandSHeadRun.head_any (r := OpenLaw.row PySem.Challenge.rw_latestrows_k01_tables_made) (q := view (OpenLaw.row PySem.Challenge.rw_latestrows_k01_tables_made).prog [28]) (H := LR.hkE) (ob := LR.obE) (M := 6000) (loose := LR.looseE) (d := HandSHeadRun.topDef (OpenLaw.row PySem.Challenge.rw_latestrows_k01_tables_made).prog 28) (kwd := []) LR.obE_eq
    (by kernel_rfl) (fun s => by kernel_rfl) LR.runE (by kernel_rfl) (by kernel_rfl) (by kernel_rfl) (by rfl) (by first | assumption | decide +kernel) (by decide +kernel) ⟨rfl, rfl, rfl, rfl, rfl, by decide +kernel⟩ ?hw ?hc
  case hw => w_witness2
  case hc =>
    refine L2.walk_ofG (l := PySem.Challenge.rw_latestrows_k01_tables_made) (n := 63) (k := 30) (x := "_law_script") (CX := L2.CX0) rfl (by decide) (by kernel_rfl) ⟨rfl, by decide, by decide⟩ ?F (fun _ _ _ _ z => z)
    intro w mg fa h Y G hmg0
    obtain ⟨K, KX, c⟩ := Y
    have hmg : mg ("law" : PySem.Str) = some (.ref fa) := by
      have e : (HandSHeadRun.topDef (OpenLaw.row PySem.Challenge.rw_latestrows_k01_tables_made).prog 28).name = ("law" : PySem.Str) := by kernel_rfl
      rw [← e]
      exact hmg0
    obtain ⟨fd, hb, hF⟩ := LR.factsE (P := (PySem.Challenge.rw_latestrows_k01_tables_made).prog) (w := w) KX G hmg c
    exact ⟨K, fd, LR.spLaw K, KX, hb, fun H a ns hl _ hS => ⟨a, ns, rfl, hS, hl, fun _ => rfl⟩, hF⟩
