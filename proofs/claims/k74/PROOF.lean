import PyProof.Rows.All
import Wide.All
import OpenK.AllK
import Wide.FinOn
import KE.KStateDown
import HandS.ForMost
import HandS.More
import HandS.Exc
import HandS.WordsExc
import HandS.Defaults
import HandS.Property
import HandS.Head0
import HandS.Head1
import HandS.Head2
import HandS.HeadEnd
import HandS.HeadHook1
import HandS.HeadHook2
import HandS.HeadHook3
import HandS.HeadHook4
import HandS.IsInst
import HandS.Flow
import HandS.Star
import HandS.FStr
import HandS.OwnEq
import HandS.Wide
import HandS.TupLe
import HandS.Codes
import PyProof.InstNe
import PyProof.StrBlock2
import HandS.SlotsOwn
import KE.KExcInit
import HandS.Walk
import PyProof.ExcBaseAll.LookupError
import PyProof.ExcBaseAll.RuntimeError
import PyProof.ExcBaseAll.OverflowError
import HandS.ExcField
import HandS.ExcInit
import HandS.TryMany
import HandS.ExcIs
import HandS.Lambda
import HandS.EndTab
import KE.DataCmp
import HandS.DictComp
import HandS.SortRule
import HandS.Finally
import HandS.Style
import HandS.HotCalls
import PyProof.ReprNest
import PyProof.DictFindH
import HandS.Conv
import KE.KEqNest
import KE.DataEq
import PyProof.StrLawsRepr
import HandS.ExcOwn
import HandS.ExcValue
import HandS.MakeKw
import KE.KExcIs
import KE.SortKeyHeap
import KE.KIntText
import KE.IntTextLaws
import PyProof.DictUpdate
import PyProof.ListRange
import HandS.ListItems
import HandS.DeepEq
import HandS.TupAny
import KE.KDictPairs
import HandS.FltList
import KE.KItemsList
import HandS.MakeKwOnly
import KE.KDictList
import KE.KDictSum
import HandS.Deep
import KE.KTryMore
import HandS.GenList
import PyProof.TupleOfGen
import HandS.Zip
import KE.KSuper
import KE.KOpsOwn
import PySem.Challenge.RW_arccursors_k74_conditions
set_option Elab.async false
set_option linter.all false
set_option maxRecDepth 100000
set_option maxHeartbeats 4000000
/-! the head of a row by facts: defs at any address -/
namespace Ah
open PySem PySem.Spec PyProof.Rows L2 He
abbrev Frag := PySem.W.Frag
def gtA (C f : Str) (K : Frag) : Addr := match PySem.W.recIn K (ma K (ga K C) f) "property" with
  | some (.ref g :: _) => g
  | _ => 0
def glA (x : Str) (K : Frag) : Addr := ga K x
def mtA (C m : Str) (K : Frag) : Addr := ma K (ga K C) m
structure DefG where
  ad : Frag → Addr
  name : Str
  qual : Str
  params : Arguments
  body : List Stmt
  scope : Scope
  dfl : List Dv := []
  kwd : List (Str × Dv) := []
  clo : List Str := []
def fnG (K : Frag) (a : Addr) : FnW := match K.lookup a with
  | some ⟨_, _, .func fd, _⟩ => some (fd.name, fd.qualname, fd.params, fd.body, fd.scope, fd.globals, fd.closure.map (fun q => (q.1, 0)), fd.builtins)
  | _ => none
def DefG.val (d : DefG) : FnW := some (d.name, d.qual, d.params, .stmts d.body, d.scope, mainGlobals, d.clo.map (fun x => (x, 0)), builtinsNs)
def DefG.dvs (K : Frag) (d : DefG) : List V := d.dfl.map (Dv.v K)
def DefG.kws (K : Frag) (d : DefG) : List (Str × V) := d.kwd.map fun q => (q.1, q.2.v K)
def DefG.ok (K : Frag) (d : DefG) : Bool := PySem.W.keepIn K (.ref (d.ad K)) && (match K.lookup (d.ad K) with
  | some ⟨_, _, .func fd, _⟩ => PySem.W.codeIn K fd.code d.qual && (dflB K fd.defaults (d.dvs K) && kwdB K fd.kwdefaults (d.kws K))
  | _ => false)
abbrev Stands (K : Frag) (d : DefG) : Prop := ∃ fd, FunD K d.name d.qual d.params d.body d.scope (d.dvs K) (d.kws K) (d.ad K) fd
theorem DefG.funD {K : Frag} {d : DefG} (e : fnG K (d.ad K) = d.val) (c : d.ok K = true) (h0 : d.clo = []) : Stands K d := by
  obtain ⟨kp, c2⟩ := ba c
  unfold fnG at e
  cases q : K.lookup (d.ad K) with
  | none =>
    rw [q] at c2
    cases c2
  | some o =>
    obtain ⟨oc, od, dt, osl⟩ := o
    rw [q] at c2 e
    cases dt with
    | func fd =>
      obtain ⟨n1, n2, n3, n4, n5, n6, n7, n8, n9, n10, n11, n12, n13, n14, n15⟩ := fd
      have e2 : (some (n1, n2, n3, n4, n5, n6, n7.map (fun q => (q.1, 0)), n15) : FnW) = some (d.name, d.qual, d.params, .stmts d.body, d.scope, mainGlobals, d.clo.map (fun x => (x, 0)), builtinsNs) := e
      rw [h0] at e2
      simp only [Option.some.injEq, Prod.mk.injEq] at e2
      obtain ⟨h1, h2, h3, h4, h5, h6, h7, h8⟩ := e2
      have h7 : n7 = [] := List.map_eq_nil_iff.mp h7
      subst h1 h2 h3 h4 h5 h6 h7 h8
      have c3 : (PySem.W.codeIn K n13 d.qual && (dflB K n8 (d.dvs K) && kwdB K n9 (d.kws K))) = true := c2
      obtain ⟨k1, k2⟩ := ba c3
      obtain ⟨k3, k4⟩ := ba k2
      exact ⟨_, ⟨oc, od, n8, n9, n10, n11, n12, n13, n14, osl, rfl, q, k1, dflB_ok k3, kwdB_ok k4⟩, kp⟩
    | _ => cases c2
abbrev StandsC (K : Frag) (d : DefG) : Prop := ∃ (oc : Value) (od : Option Addr) (cl : List (Str × Addr)) (dV kV doc pm : Value) (an : Option Addr) (cdv ct : Value) (osl : Array (Option Value)),
  K.lookup (d.ad K) = some ⟨oc, od, .func (PySem.W.fnX d.name d.qual d.params d.body d.scope cl dV kV doc pm an cdv ct), osl⟩ ∧ cl.map (·.1) = d.clo ∧ DflV K dV (d.dvs K) ∧ PySem.W.codeIn K cdv d.qual = true ∧ PySem.W.keepIn K (.ref (d.ad K)) = true
theorem DefG.funC {K : Frag} {d : DefG} (e : fnG K (d.ad K) = d.val) (c : d.ok K = true) : StandsC K d := by
  obtain ⟨kp, c2⟩ := ba c
  unfold fnG at e
  cases q : K.lookup (d.ad K) with
  | none =>
    rw [q] at c2
    cases c2
  | some o =>
    obtain ⟨oc, od, dt, osl⟩ := o
    rw [q] at c2 e
    cases dt with
    | func fd =>
      obtain ⟨n1, n2, n3, n4, n5, n6, n7, n8, n9, n10, n11, n12, n13, n14, n15⟩ := fd
      have e2 : (some (n1, n2, n3, n4, n5, n6, n7.map (fun q => (q.1, 0)), n15) : FnW) = some (d.name, d.qual, d.params, .stmts d.body, d.scope, mainGlobals, d.clo.map (fun x => (x, 0)), builtinsNs) := e
      simp only [Option.some.injEq, Prod.mk.injEq] at e2
      obtain ⟨h1, h2, h3, h4, h5, h6, h7, h8⟩ := e2
      subst h1 h2 h3 h4 h5 h6 h8
      have c3 : (PySem.W.codeIn K n13 d.qual && (dflB K n8 (d.dvs K) && kwdB K n9 (d.kws K))) = true := c2
      have h9 := congrArg (List.map (·.1)) h7
      simp only [List.map_map] at h9
      exact ⟨oc, od, n7, n8, n9, n10, n11, n12, n13, n14, osl, q, h9.trans (List.map_id' d.clo), dflB_ok (ba (ba c3).2).1, (ba c3).1, kp⟩
    | _ => cases c2
def CodeV (K : Frag) (a : Addr) : Value := match K.lookup a with
  | some ⟨_, _, .func fd, _⟩ => fd.code
  | _ => .none
def codeA (K : Frag) (a : Addr) : Addr := match CodeV K a with
  | .ref c => c
  | _ => 0
def cTA (K : Frag) (f : Frag → Addr) : Addr × Addr := (codeA K (f K), tabOf K (codeA K (f K)))
def tabB (g : Addr → Option Obj) (tf : List (Frag → Addr)) (K : Frag) : Bool := tf.all fun f => decide (CodeV K (f K) = .ref (codeA K (f K))) && (PySem.W.codeHdIn K (cTA K f).1 (cTA K f).2 && (match g (cTA K f).2 with
  | some o => emptyTab o
  | none => false))
structure TabF (tf : List (Frag → Addr)) (h : Heap) (K : Frag) : Prop where
  code : ∀ f ∈ tf, CodeV K (f K) = .ref (codeA K (f K))
  hd : ∀ f ∈ tf, PySem.W.codeHdIn K (cTA K f).1 (cTA K f).2 = true
  out : ∀ f ∈ tf, K.lookup (cTA K f).2 = none
  empty : ∀ f ∈ tf, h.get? (cTA K f).2 = some { cls := .none, data := .fields #[] }
abbrev AlG : Type := Bool × List FnW
def obsG (fa : List Fa) (ex : Frag → Bool) (fn : List DefG) (K : Frag) : AlG := ((fa.all fun f => f.ok K) && (ex K && fn.all fun d => d.ok K), fn.map fun d => fnG K (d.ad K))
def valG (fn : List DefG) : AlG := (true, fn.map DefG.val)
def SaysG (fa : List Fa) (ex : Frag → Bool) (fn : List DefG) (K : Frag) : Prop := obsG fa ex fn K = valG fn
abbrev AlT : Type := AlG × Bool
section
variable {fa : List Fa} {ex : Frag → Bool} {fn : List DefG} {K : Frag}
theorem SaysG.fact (c : SaysG fa ex fn K) (i : Nat) {f : Fa} (h : fa[i]? = some f := by rfl) : f.ok K = true := by
  have c1 := (ba (show ((fa.all fun f => f.ok K) && (ex K && fn.all fun d => d.ok K)) = true from congrArg (fun z : AlG => z.1) c)).1
  exact List.all_eq_true.mp c1 f (List.mem_of_getElem? h)
theorem SaysG.more (c : SaysG fa ex fn K) : ex K = true :=
  (ba (ba (show ((fa.all fun f => f.ok K) && (ex K && fn.all fun d => d.ok K)) = true from congrArg (fun z : AlG => z.1) c)).2).1
theorem SaysG.def_ (c : SaysG fa ex fn K) (i : Nat) {d : DefG} (h : fn[i]? = some d := by rfl) (h0 : d.clo = [] := by rfl) : Stands K d := by
  have c2 := (ba (ba (show ((fa.all fun f => f.ok K) && (ex K && fn.all fun d => d.ok K)) = true from congrArg (fun z : AlG => z.1) c)).2).2
  have e : fn.map (fun d => fnG K (d.ad K)) = fn.map DefG.val := congrArg (fun z : AlG => z.2) c
  have e2 : (fn.map fun d => fnG K (d.ad K))[i]? = (fn.map DefG.val)[i]? := by rw [e]
  rw [List.getElem?_map, List.getElem?_map, h] at e2
  exact DefG.funD (Option.some.inj e2) (List.all_eq_true.mp c2 d (List.mem_of_getElem? h)) h0
theorem SaysG.defC (c : SaysG fa ex fn K) (i : Nat) {d : DefG} (h : fn[i]? = some d := by rfl) : StandsC K d := by
  have c2 := (ba (ba (show ((fa.all fun f => f.ok K) && (ex K && fn.all fun d => d.ok K)) = true from congrArg (fun z : AlG => z.1) c)).2).2
  have e : fn.map (fun d => fnG K (d.ad K)) = fn.map DefG.val := congrArg (fun z : AlG => z.2) c
  have e2 : (fn.map fun d => fnG K (d.ad K))[i]? = (fn.map DefG.val)[i]? := by rw [e]
  rw [List.getElem?_map, List.getElem?_map, h] at e2
  exact DefG.funC (Option.some.inj e2) (List.all_eq_true.mp c2 d (List.mem_of_getElem? h))
end
def propB (C f : Str) (K : Frag) : Bool :=
  eqO (PySem.W.findIn K (.ref (ga K C)) f) (some (some (.ref (ma K (ga K C) f)))) &&
  (eqO (PySem.W.specialIn K (.ref (ma K (ga K C) f)) "__get__") (some (some (.builtin "property.__get__"))) &&
  (decide (PySem.W.takesIn K (.ref (ma K (ga K C) f)) = some true) &&
  (match PySem.W.recIn K (ma K (ga K C) f) "property" with
    | some (.ref _ :: _) => true
    | _ => false)))
theorem propB_ok {C f : Str} {K : Frag} (h : propB C f K = true) : PropOf K (ga K C) f (ma K (ga K C) f) (gtA C f K) := by
  unfold propB at h
  obtain ⟨h1, h2⟩ := ba h
  obtain ⟨h2, h3⟩ := ba h2
  obtain ⟨h3, h4⟩ := ba h3
  refine ⟨eqO_ok h1, eqO_ok h2, of_decide_eq_true h3, ?_⟩
  unfold gtA
  cases q : PySem.W.recIn K (ma K (ga K C) f) "property" with
  | none => rw [q] at h4; cases h4
  | some l =>
    rw [q] at h4
    cases l with
    | nil => cases h4
    | cons v r =>
      cases v with
      | ref g => exact ⟨r, rfl⟩
      | _ => cases h4
end Ah

/-! short words: a def that keeps its promise (FnB), calls of it. Room, and no repr is under way (Rm) -/
namespace Ah
open PySem PySem.Spec PyProof.Rows L2 He
structure Rm (k : Nat) (A : Around) : Prop where
  r : Room k A
  g : A.guards = some []
section
variable {j k : Nat} {A : Around}
theorem Rm.mono (h : Rm k A) (hj : j ≤ k) : Rm j A := ⟨h.r.mono hj, h.g⟩
theorem Rm.in1 (h : Rm (k + 1) A) : Rm k A.in1 := ⟨h.r.in1, h.g⟩
theorem Rm.make (h : Rm (k + 1) A) (C : Addr) (us : List Value) (kw : List (Str × Value)) : Rm k (A.under (.builtin "type.__call__" ⟨.ref C :: us, kw⟩)) := by
  refine ⟨h.r.make C us kw, ?_⟩
  show pushGuards (Code.builtin "type.__call__" ⟨.ref C :: us, kw⟩).guards A.guards = some []
  rw [h.g]
  rfl
theorem Rm.hu (h : Rm k A) : A.units + 1 < cLine := hu_of h.r
end
theorem hu0 {A : Around} {k : Nat} (hr : Rm k A) : A.units < cLine := hr.r.units0
theorem hu64 {A : Around} {k : Nat} (hr : Rm k A) : A.units + 64 < cLine := hr.r.units
theorem hu99 {A : Around} {k : Nat} (hr : Rm k A) : A.units + 99 < cLine := by
  have := hr.r.un
  omega
structure FnB (P : Program) (w : World) (K : Frag) (mg : Str → Option Value) (base : Heap) (k : Nat) (f : Addr) (sp : Sp) : Prop where
  run : ∀ (A : Around) (outer : List Env) (s : Shared) (H : Hp) (us : List Value) (vs : List V) (Q : VK) (E : XK), Rm k A → Env0 P w K mg base A outer s H → Vals vs us → sp vs H Q E →
    codeAny (model P w) A (.call (.ref f) ⟨us, []⟩) (CR (L2.CX P w) outer P w H s Q E) s
  kp : PySem.W.keepIn K (.ref f) = true
section
variable {P : Program} {w : World} {K : Frag} {mg : Str → Option Value} {base : Heap}
theorem FnB.mono {j k : Nat} {f : Addr} {sp : Sp} (F : FnB P w K mg base j f sp) (h : j ≤ k) : FnB P w K mg base k f sp := ⟨fun A outer s H us vs Q E hr => F.run A outer s H us vs Q E (hr.mono h), F.kp⟩
def BodyB (CX : CXT) (P : Program) (w : World) (K : Frag) (mg : Str → Option Value) (base : Heap) (N : List Str) (d : DefG) (k : Nat) (sp : Sp) : Prop :=
  ∀ (A : Around) (outer : List Env) (s : Shared) (H : Hp) (vs : List V) (Q : VK) (E : XK), Rm k (A.deeper (envOfC d.qual d.scope s.heap.objs.size (d.ad K) (CodeV K (d.ad K)))) → sp vs H Q E →
    ∃ t, PSs (cxOf CX P w K mg base N d.qual d.scope (d.ad K) (CodeV K (d.ad K)) A outer s H E) d.body t ∧ t { nx := fun _ H' => Q .non H', rt := Q } (L2.start N vs) H
theorem body_run {CX : CXT} {N ps : List Str} {k : Nat} {sp : Sp} {d : DefG} {fd : FuncData} {dvs : List V} {kws : List (Str × V)} (F : FunD K d.name d.qual d.params d.body d.scope dvs kws (d.ad K) fd) (S : FnScope N ps d.scope) (hbody : BodyB CX P w K mg base N d k sp)
    {A : Around} {outer : List Env} {s : Shared} {H : Hp} {args : Args} {us : List Value} {vs : List V} {Q : VK} {E : XK} (hr : Rm (k + 1) A) (e0 : Env0 P w K mg base A outer s H) (hb : BindsTo s fd args (ps.zip us)) (hl : vs.length = ps.length) (r : Vals vs us) (hsp : sp vs H Q E) :
    codeAny (model P w) A (.call (.ref (d.ad K)) args) (CR CX outer P w H s Q E) s := by
  obtain ⟨oc, od, dV, kV, doc, pm, an, cdv, ct, osl, rfl, lk, hcd, _, _⟩ := F.ex
  have KX : K.In s.heap := e0.mod.kin.keeps fun b o e => (e0.bs b o e).1
  have lim : s.heap.NoLimit := e0.mod.nolimit.keeps fun b o e => (e0.bs b o e).1
  have par : ∀ y ∈ ps.zip us, d.scope.names.lookup y.1 = some .local ∨ (d.scope.names.lookup y.1 = some .cell ∧ ((cellsFrom (s.heap.objs.size + 1) d.scope.names []).lookup y.1).isSome = true) := by
    rintro ⟨n, v⟩ hy
    cases S.par n (List.of_mem_zip hy).1 with
    | inl q => exact Or.inl q
    | inr q => exact Or.inr ⟨q, PySem.W.cellsFrom_some _ _ _ (Or.inl q)⟩
  refine codeAny_call_function hr.r.depth (KX _ _ lk) rfl S.co S.gen rfl (PySem.W.codeRec_of KX hcd) (hb _ _ _ _ ?_)
  refine wpAny_newFunctionEnv_cells S.kind par fun env he s1 x => ?_
  subst he
  refine ⟨lim.keeps x.toInCall.keep, codeAny_func ?_⟩
  have ec : CodeV K (d.ad K) = cdv := by
    unfold CodeV
    rw [lk]
  subst ec
  have hr' : Rm k (A.deeper (envOfC d.qual d.scope s.heap.objs.size (d.ad K) (CodeV K (d.ad K)))) := ⟨hr.r.deeper _, hr.g⟩
  obtain ⟨t, ht, hq⟩ := hbody A outer s H vs Q E hr' hsp
  have I := inv_start (CX := CX) (E := E) S hr.r.hd e0 hl r x
  refine wpAny_mono (ht.run [] s1 (L2.start N vs) H _ I hq) (fun fl s' hs => ?_) fun _ _ hs => hs
  cases fl with
  | ret u =>
    obtain ⟨v, _, H', J, rv, q⟩ := hs
    exact ⟨v, H', J.os, J.bare, J.base, J.hok, rv, q⟩
  | next =>
    obtain ⟨_, H', J, q⟩ := hs
    exact ⟨V.non, H', J.os, J.bare, J.base, J.hok, rfl, q⟩
  | brk => exact hs.elim fun _ z => z.elim fun _ z => z.2.elim
  | cont => exact hs.elim fun _ z => z.elim fun _ z => z.2.elim
theorem okD {N ps : List Str} {k : Nat} {sp : Sp} {d : DefG} (S : Stands K d) (h0 : d.dfl = []) (sc : FnScope N ps d.scope) (len : ∀ vs H Q E, sp vs H Q E → vs.length = ps.length)
    (hb : ∀ (kV doc pm : Value) (an : Option Addr) (cdv ct : Value) (us : List Value), us.length = ps.length → bindArgs (PySem.W.fnOf d.name d.qual d.params d.body d.scope .none kV doc pm an cdv ct) ⟨us, []⟩ = pure (ps.zip us))
    (hbody : BodyB (L2.CX P w) P w K mg base N d k sp) : FnB P w K mg base (k + 1) (d.ad K) sp := by
  obtain ⟨fd, F⟩ := S
  have e : d.dvs K = [] := by unfold DefG.dvs; rw [h0]; rfl
  rw [e] at F
  refine ⟨fun A outer s H us vs Q E hr e0 r hsp => ?_, F.kp⟩
  have hl := len _ _ _ _ hsp
  have KX : K.In s.heap := e0.mod.kin.keeps fun b o e => (e0.bs b o e).1
  have b := F.bindsN hb s us KX (by rw [List.append_nil, ← r.length]; exact hl)
  rw [List.append_nil] at b
  exact body_run F sc hbody hr e0 b hl r hsp
end
section
variable {X : Cx} {k j : Nat} {f C : Addr} {sp : Sp} {E : XK} {x m : Str} {e o : Expr} {es : List Expr} {t : TA} {ta : TE} {p pos apos : Pos} {pins : List (Addr × Obj)} {σ : L2.St} {H : Hp} {s : Shared}
theorem runB {A : Around} {Q : VK} {us : List Value} {vs : List V} (F : FnB X.prog X.w X.K X.mg X.base k f sp) (hr : Rm k A) (e0 : Env0 X.prog X.w X.K X.mg X.base A X.stack s H) (hx : Passes (L2.CX X.prog X.w) X E) (I : L2.Inv X pins σ H s) (r : Vals vs us) (h : sp vs H Q E) :
    codeAny (model X.prog X.w) A (.call (.ref f) ⟨us, []⟩) (fun r s' => match r with | .ok (.ret v) => EP X pins σ Q v s' | .ok _ => False | .error e => X.xe e s') s := by
  refine codeAny_mono (F.run A X.stack s H us vs Q E hr e0 r h) fun res s' hq => ?_
  match res, hq with
  | .error e, hq => exact hx pins σ H s e s' I hq
  | .ok (.ret u), hq => exact I.after hq
theorem pe_cF (F : FnB X.prog X.w X.K X.mg X.base k f sp) (hr : Rm j X.A) (hm : X.mg x = some (.ref f)) (hx : Passes (L2.CX X.prog X.w) X E) (ha : PA X (e :: es) t) (hk : k ≤ j := by decide) (hg : Gl X x := by rfl)
    (hdb : (x == ("__debug__" : Str)) = false := by decide) (he : starEach (e :: es) X.env = (false, eval e X.env) :: starEach es X.env := by rfl) (hpl : (backTo pos (starEach es X.env)).any (·.1) = false := by rfl) :
    PE X (.Call (.Name x p) (e :: es) [] pos) (tCall sp [] E t) := by
  refine ⟨fun pins s σ H Q I h => wpAny_Call_Name_kw (ld_glob I hg hm ?_ hdb)⟩
  refine PySem.W.callWith_K (h₀ := X.base) I.ok.mod.kin F.kp (thn (ha.run pos pins s σ H _ I h) fun us s1 ⟨vs, H1, I1, r, q⟩ => ⟨I1.kIn, ?_⟩) he hpl
  simp only [List.append_nil] at q
  exact wpAny_call (runB F (hr.mono hk) I1.env0 hx I1 r q)
theorem pe_mkF (M : Mk X.K C f) (F : FnB X.prog X.w X.K X.mg X.base k f sp) (hr : Rm j X.A) (hm : X.mg x = some (.ref C)) (hx : Passes (L2.CX X.prog X.w) X E) (ha : PA X (e :: es) t) (hk : k + 1 ≤ j := by decide) (hg : Gl X x := by rfl)
    (hdb : (x == ("__debug__" : Str)) = false := by decide) (he : starEach (e :: es) X.env = (false, eval e X.env) :: starEach es X.env := by rfl) (hpl : (backTo pos (starEach es X.env)).any (·.1) = false := by rfl) :
    PE X (.Call (.Name x p) (e :: es) [] pos) (tMake C sp [] E t) := by
  refine ⟨fun pins s σ H Q I h => wpAny_Call_Name_kw (ld_glob I hg hm ?_ hdb)⟩
  refine PySem.W.callWith_K (h₀ := X.base) I.ok.mod.kin M.kp (thn (ha.run pos pins s σ H _ I h) fun us s1 ⟨vs, H1, I1, r, q⟩ => ⟨I1.kIn, ?_⟩) he hpl
  have q' := q (s1.heap.objs.size + 1) s1.heap.objs.size (I1.hok.fresh (Nat.le_succ _)) (I1.hok.fresh (Nat.le_refl _)) (Nat.ne_of_lt (Nat.lt_succ_self _))
  rw [List.append_nil] at q'
  have I2 := Inv.made (C := C) I1
  have r2 : Vals (V.ref (s1.heap.objs.size + 1) :: vs) (Value.ref (s1.heap.objs.size + 1) :: us) := .cons rfl r
  refine wpAny_call (make_map (f := f) I1.kIn M.makes M.init (beq_iff_eq.mp M.fn) (codeAny_mono (F.run _ X.stack _ _ _ _ _ E ((hr.mono hk).make C us []) (I2.env0.make C us []) r2 q') fun res s' hq' => ?_))
  match res, hq' with
  | .error e, hq' => exact hx pins σ _ _ e s' I2 hq'
  | .ok (.ret u), hq' =>
    obtain ⟨v, H', I3, rv, ev, q3⟩ := I2.after hq'
    subst ev
    exact ⟨rv, V.ref (s1.heap.objs.size + 1), H', I3, rfl, q3⟩
theorem pe_mtF {pl : Sem Bool} (he : PE X o ta) (c : Cls X.K C) (hm : Meth X.K C m f) (F : FnB X.prog X.w X.K X.mg X.base k f sp) (hr : Rm j X.A) (hx : Passes (L2.CX X.prog X.w) X E) (ha : PA X (e :: es) t) (hk : k ≤ j := by decide)
    (hst : starEach (e :: es) X.env = (false, eval e X.env) :: starEach es X.env := by rfl) (hpl : (backTo pos (starEach es X.env)).any (·.1) = false := by rfl)
    (ht : eval (.Call (.Attribute o m apos) (e :: es) [] pos) X.env = (do
      let ov ← eval o X.env
      standAt apos.atName
      let (f, first) ← holding [ov] (getMethod ov m pl)
      callWith pos f first (backTo pos (starEach (e :: es) X.env)) (backToKw pos (keywordEach [] X.env))) := by rfl) :
    PE X (.Call (.Attribute o m apos) (e :: es) [] pos) (tMeth C m sp [] E ta t) := by
  refine ⟨fun pins s σ H Q I h => PySem.W.methodCall_KW (pl := pl) (thn (he.run pins s σ H _ I h) fun u s1 ⟨x, H1, I1, rx, a, dx, fs, ex, ea, l, q⟩ => ?_) ht⟩
  subst ex
  cases (show u = Value.ref a from rx)
  refine getmeth_ok I1 ea c hm l (PySem.W.callWith_K (first := [.ref a]) (h₀ := X.base) I.ok.mod.kin hm.kp (thn (ha.run pos pins s1 σ H1 _ I1 q) fun us s2 ⟨vs, H2, I2, r, q2⟩ => ⟨I2.kIn, ?_⟩) hst hpl)
  simp only [List.append_nil] at q2
  exact wpAny_call (runB (us := .ref a :: us) (vs := .ref a :: vs) F (hr.mono hk) I2.env0 hx I2 (.cons rfl r) q2)
theorem pe_prF {q : Addr} {y : Str} (he : PE X o ta) (c : Cls X.K C) (hp : PropOf X.K C y q f) (F : FnB X.prog X.w X.K X.mg X.base k f sp) (hr : Rm j X.A) (hx : Passes (L2.CX X.prog X.w) X.nox E) (hk : k + 1 ≤ j := by decide)
    (hab : attributeBase o y X.env (eval o X.env) = eval o X.env := by rfl) : PE X (.Attribute o y pos) (tProp C sp [] E ta) := by
  refine ⟨fun pins s σ H Q I h => attr_of hab (thn (he.run pins s σ H _ I h) fun u s1 ⟨x, H1, I1, rx, a, dx, fs, ex, ea, q⟩ => ?_)⟩
  subst ex
  cases (show u = Value.ref a from rx)
  obtain ⟨mA, O, _⟩ := ins_get I1.hok ea
  obtain ⟨od, J, _⟩ := O.look
  obtain ⟨rest, hrec⟩ := hp.rec_
  have I2 := I1.tok (s1.toks + 1)
  have hc : (PySem.W.clsIn X.K C).isSome = true := by
    obtain ⟨cd, hc, _⟩ := PySem.W.any_some c.hd
    rw [hc]
    rfl
  refine PySem.W.get_bind I1.kIn J (PySem.W.plainGet_of (c.get y)).1 (PySem.W.findObj_data hc hp.at_ hp.get hp.tak) (PySem.W.plainGet_of (c.get y)).2 (wpAny_call (PySem.W.prop_get (s := { s1 with toks := s1.toks + 1 }) I1.kIn hrec ?_))
  refine codeAny_mono (F.run X.A.in1 X.stack { s1 with toks := s1.toks + 1 } H1 [.ref a] [.ref a] Q E (hr.mono hk).in1 I2.env0.in1 (.cons rfl .nil) q) fun res s' hq => ?_
  match res, hq with
  | .error er, hq => exact False.elim (hx pins σ H1 { s1 with toks := s1.toks + 1 } er s' (I2.wish _) hq)
  | .ok (.ret u), hq =>
    obtain ⟨v, H', I3, rv, q3⟩ := I2.after hq
    exact wpAny_of_eq (PySem.W.handedOut_of (handed_of rv)) ⟨v, H', I3, rv, q3⟩
end
theorem upd_keep {H : Hp} {a p : Addr} {o o' : HO} (h : H a = some o') (hp : H p = none) : upd H p o a = some o' := by
  rw [upd_ne (ne_of_none h hp)]
  exact h
theorem upd_other {H : Hp} {a p : Addr} {o o' : HO} (hn : a ≠ p) (h : H a = some o') : upd H p o a = some o' := by
  rw [upd_ne hn]
  exact h
theorem Same.upd {H H' : Hp} {p : Addr} {o : HO} (s : Same H H') (hp : H' p = none) : Same H (L2.upd H' p o) := fun b o' e => upd_keep (s b o' e) hp
end Ah

/-! kinds of values, isinstance -/
namespace Ah
open PySem PySem.Spec PyProof.Rows L2 He
inductive Kn where
  | int (i : Int)
  | bl (b : Bool)
  | str (z : Str)
  | non
  | lst (a : Addr) (xs : List V)
  | tup (a : Addr) (xs : List V)
  | dct (a : Addr) (kvs : List (Key × V))
  | ins (a C : Addr)
def bTys : List String := ["int", "bool", "str", "list", "tuple", "dict"]
structure OwnC (K : Frag) (C : Addr) : Prop where
  cl : Cls K C
  ha : PySem.W.findIn K (.ref C) "__class__" = some (some (.builtin "object.__class__"))
  hn : PySem.W.specialIn K (.builtin "object.__class__") "__get__" = some (some (.builtin "getset_descriptor.__get__"))
  htk : PySem.W.takesIn K (.builtin "object.__class__") = some true
  hm : PySem.W.mroIn K C (.type "object") = some true
  kit : ∀ T ∈ bTys, PySem.W.kitOne K (.ref C) (.type T) = some false
structure OwnK (K : Frag) (C : Addr) : Prop where
  kit : ∀ T ∈ ["NoneType", "int", "bool", "str", "list", "tuple", "dict"], PySem.W.kitOne K (.type T) (.ref C) = some false
inductive Is (K : Frag) (H : Hp) : V → Kn → Prop where
  | int (i : Int) : Is K H (.int i) (.int i)
  | bl (b : Bool) : Is K H (.bl b) (.bl b)
  | str (z : Str) : Is K H (.str z) (.str z)
  | non : Is K H .non .non
  | lst {a : Addr} {xs : List V} (e : H a = some (.lst xs)) : Is K H (.ref a) (.lst a xs)
  | tup {a : Addr} {xs : List V} (e : H a = some (.tup xs)) : Is K H (.ref a) (.tup a xs)
  | dct {a : Addr} {kvs : List (Key × V)} (e : H a = some (.dK kvs)) : Is K H (.ref a) (.dct a kvs)
  | ins {a C dx : Addr} {fs : List (Str × V)} (e : H a = some (.ins C dx fs)) (c : OwnC K C) : Is K H (.ref a) (.ins a C)
theorem Is.same {K : Frag} {H H' : Hp} {x : V} {k : Kn} (h : Is K H x k) (s : Same H H') : Is K H' x k := by
  cases h with
  | int i => exact .int i
  | bl b => exact .bl b
  | str z => exact .str z
  | non => exact .non
  | lst e => exact .lst (s _ _ e)
  | tup e => exact .tup (s _ _ e)
  | dct e => exact .dct (s _ _ e)
  | ins e c => exact .ins (s _ _ e) c
def Kn.ty : Kn → Value
  | .int _ => .type "int"
  | .bl _ => .type "bool"
  | .str _ => .type "str"
  | .non => .type "NoneType"
  | .lst _ _ => .type "list"
  | .tup _ _ => .type "tuple"
  | .dct _ _ => .type "dict"
  | .ins _ C => .ref C
def Kn.isT : Kn → String → Bool
  | .int _, T => T == "int"
  | .bl _, T => T == "int" || T == "bool"
  | .str _, T => T == "str"
  | .non, _ => false
  | .lst _ _, T => T == "list"
  | .tup _ _, T => T == "tuple"
  | .dct _ _, T => T == "dict"
  | .ins _ _, _ => false
def Kn.isC : Kn → Addr → Bool
  | .ins _ C, D => decide (C = D)
  | _, _ => false
theorem Is.tyx {K : Frag} {H : Hp} {x : V} {k : Kn} (h : Is K H x k) : TyX K H x k.ty := by
  cases h with
  | int i => exact .base (.int i)
  | bl b => exact .base (.bl b)
  | str z => exact .base (.str z)
  | non => exact .base .non
  | lst e => exact .base (.lst e)
  | tup e => exact .base (.tup e)
  | dct e => exact .base (.dK e)
  | ins e c => exact .base (.ins e c.cl c.ha c.hn c.htk c.hm)
theorem kit6 {K : Frag} {k : String} {r : String → Bool} (h : ∀ T ∈ bTys, kitB k T = some (r T)) : ∀ T ∈ bTys, PySem.W.kitOne K (.type k) (.type T) = some (r T) := fun T hT => kit_ty (h T hT)
theorem Is.kit {K : Frag} {H : Hp} {x : V} {k : Kn} (h : Is K H x k) : ∀ T ∈ bTys, PySem.W.kitOne K k.ty (.type T) = some (k.isT T) := by
  cases h with
  | ins e c => exact c.kit
  | int i => exact kit6 (r := fun T => T == "int") (by decide +kernel)
  | bl i => exact kit6 (r := fun T => T == "int" || T == "bool") (by decide +kernel)
  | str i => exact kit6 (r := fun T => T == "str") (by decide +kernel)
  | non => exact kit6 (r := fun T => false) (by decide +kernel)
  | lst i => exact kit6 (r := fun T => T == "list") (by decide +kernel)
  | tup i => exact kit6 (r := fun T => T == "tuple") (by decide +kernel)
  | dct i => exact kit6 (r := fun T => T == "dict") (by decide +kernel)
theorem isi (T : String) {K : Frag} {H : Hp} {x : V} {k : Kn} {Q : VK} (h : Is K H x k) (q : Q (.bl (k.isT T)) H) (hT : T ∈ bTys := by decide) : rIsi K [x, .ty T] H Q :=
  ⟨x, .ty T, _, _, _, rfl, .ty T, h.tyx, h.kit T hT, q⟩
theorem isiC {K : Frag} {H : Hp} {x : V} {k : Kn} {C : Addr} {Q : VK} (h : Is K H x k) (o : OwnK K C) (hd : ∀ a D, k = .ins a D → D ≠ C → PySem.W.kitOne K (.ref D) (.ref C) = some false) (q : Q (.bl (k.isC C)) H) : rIsi K [x, .ref C] H Q := by
  refine ⟨x, .ref C, k.ty, .ref C, k.isC C, rfl, .own C, h.tyx, ?_, q⟩
  cases h with
  | @ins a D dx fs e c =>
    show PySem.W.kitOne K (.ref D) (.ref C) = some (decide (D = C))
    by_cases z : D = C
    · subst z
      rw [decide_eq_true rfl]
      unfold PySem.W.kitOne
      rw [if_pos (by simp)]
    · rw [decide_eq_false z]
      exact hd a D rfl z
  | int i => exact o.kit _ (by decide)
  | bl i => exact o.kit _ (by decide)
  | str i => exact o.kit _ (by decide)
  | non => exact o.kit _ (by decide)
  | lst i => exact o.kit _ (by decide)
  | tup i => exact o.kit _ (by decide)
  | dct i => exact o.kit _ (by decide)
/-! constants of the module -/
theorem gint {mg : Str → Option Value} {x : Str} {i : Int} (h : ∃ t, mg x = some (.int i t)) : ∃ u, mg x = some u ∧ RelV (.int i) u := by
  obtain ⟨t, h⟩ := h
  exact ⟨_, h, ⟨t, rfl⟩⟩
theorem gstr {mg : Str → Option Value} {x z : Str} (h : ∃ t, mg x = some (.str z t)) : ∃ u, mg x = some u ∧ RelV (.str z) u := by
  obtain ⟨t, h⟩ := h
  exact ⟨_, h, ⟨t, rfl⟩⟩
theorem pe_gc {X : Cx} {x : Str} {pos : Pos} {v : V} (hg : Gl X x) (h : ∃ u, X.mg x = some u ∧ RelV v u) (hd : (x == ("__debug__" : Str)) = false := by decide) : PE X (.Name x pos) (tC v) := by
  obtain ⟨u, hm, r⟩ := h
  exact pe_glob hg hm r hd
theorem pj_nil {X : Cx} : PJ X [] [] := .nil
theorem pj_cons {X : Cx} {e : Expr} {t : TE} {es : List Expr} {ts : List TE} (h : PE X e t) (r : PJ X es ts) : PJ X (e :: es) (t :: ts) := .cons h r
end Ah

/-! numbers and keys: the mathematics -/
namespace Ah
open PySem PySem.Spec PyProof.Rows L2 He
def Kn.within (k : Kn) (a b : Int) : Bool := match k with
  | .int i => decide (a ≤ i) && decide (i ≤ b)
  | _ => false
def keySign (c : Nat) : Bool := (decide (97 ≤ c) && decide (c ≤ 122)) || (decide (48 ≤ c) && decide (c ≤ 57))
def isKeyL (l : List Nat) : Bool := decide (1 ≤ l.length) && decide (l.length ≤ 20) && l.all keySign
def Kn.isKey : Kn → Bool
  | .str z => isKeyL z.cps.toList
  | _ => false
def Kn.small : Kn → Prop
  | .str z => z.length ≤ 1000000
  | _ => True
end Ah

/-! own rules: ==, != by an own __eq__, repr by an own __repr__, a call of an instance, text * int -/
namespace Ah
open PySem PySem.Spec PyProof.Rows L2 He
section
variable {X : Cx} {k j : Nat} {f C : Addr} {sp : Sp} {E : XK} {pins : List (Addr × Obj)} {σ : L2.St} {H : Hp} {s : Shared}
theorem looks_kn {x : V} {u : Value} {k : Kn} (I : Inv X pins σ H s) (r : RelV x u) (h : Is X.K H x k) (M : Model) : PySem.W.Looks M s.heap (typeOf u) k.ty := by
  obtain ⟨P, kx, p, _⟩ := kit_of I r h.tyx
  exact kx.ty M s.heap I.kIn p
def rEqO (K : Frag) (C : Addr) (sp : Sp) (E : XK) : R2 := fun x y H Q => ∃ a dx fs k, x = .ref a ∧ H a = some (.ins C dx fs) ∧ Is K H y k ∧ PySem.W.notFirst K C k.ty = true ∧ sp [x, y] H (fun z H' => ∃ b, z = .bl b ∧ Q (.bl b) H') E
theorem op_eqO (hm : Meth X.K C "__eq__" f) (F : FnB X.prog X.w X.K X.mg X.base k f sp) (hr : Rm j X.A) (hx : Passes (L2.CX X.prog X.w) X E) (hk : k ≤ j := by decide) : OpR X (compareOp .Eq) (rEqO X.K C sp E) := by
  intro pins s σ H x y v u Q I rx ry h
  obtain ⟨a, dx, fs, kn, rfl, ha, hy, hn, q⟩ := h
  cases (show v = Value.ref a from rx)
  obtain ⟨mA, O, _⟩ := ins_get I.hok ha
  obtain ⟨od, J, _⟩ := O.look
  obtain ⟨m, hF⟩ := I.fr
  refine PySem.W.cmp_K (op := .Eq) (tb := kn.ty) (hu0 hr) hF I.ok.mod.kin J (looks_kn I ry hy _) hn hm.at_ hm.fn ?_
  refine wpAny_mono (wpAny_call (runB (us := [.ref a, u]) (vs := [.ref a, y]) F (hr.mono hk) I.env0 hx I (.cons rfl (.cons ry .nil)) q)) (fun w s' z => ?_) fun _ _ x => x
  obtain ⟨z', H', I', rz, b, eb, qz⟩ := z
  subst eb
  cases (show w = Value.bool b from rz)
  exact ⟨.bl b, H', I', rfl, qz⟩
theorem ne_K {prog : Program} {w : World} {A : Around} {E : Value → Shared → Prop} {s : Shared} {K : Frag} {x C L f : Addr} {h₀ : Heap} {m : Str → Option Value} {ox : Obj} {od : Option Obj} {b tb : Value} {Q : Value → Shared → Prop}
    (hu : A.units + 1 < cLine) (F : Fr h₀ L s.heap m) (X₀ : K.In h₀) (I : PySem.W.InstAt s.heap x ox C od) (hb : PySem.W.Looks (model prog w) s.heap (typeOf b) tb) (hn : PySem.W.notFirst K C tb = true)
    (hne : PySem.W.findIn K (.ref C) "__ne__" = some (some (.builtin "object.__ne__"))) (hcl : PySem.W.excInitIn K C [.type "object"] "object.__new__" = true)
    (hs : PySem.W.findIn K (.ref C) "__eq__" = some (some (.ref f))) (hf : PySem.W.isFn K (.ref f) = true)
    (h : wpAny (model prog w) A.in1 (call (.ref f) [.ref x, b]) (fun v s' => ∃ c, v = .bool c ∧ Q (.bool (!c)) s') E s) : wpAny (model prog w) A (richCompare .NotEq (.ref x) b) Q E s := by
  have X := X₀.keeps F.keep
  have one : wpAny (model prog w) A (tryCompare (.ref x) "__ne__" b) (fun r s' => ∃ v, r = some v ∧ Q v s') E s := by
    unfold tryCompare
    refine wpAny_bind (m := callSpecialIfBound? (.ref x) "__ne__" [b]) ?_
    simp only [callSpecialIfBound?, bindSpecialIfBound?]
    refine wpAny_holding (wpAny_bind (wpAny_bind (wpAny_bind (I.type.here ((PySem.W.looks_findIn X hne).here ?_)))))
    refine wpAny_bind (wpAny_askSetting (wpAny_ite ?_))
    have bnd : bindSpecial (.builtin "object.__ne__") (.ref x) = pure (.builtin "object.__ne__", [.ref x]) := PySem.F.cmp_object.ne.bind _
    have fin : wpAny (model prog w) A (call (.builtin "object.__ne__") ([.ref x] ++ [b]) >>= fun v => pure (some v)) (fun r s' => wpAny (model prog w) A (match r with
        | some .notImplemented | none => pure none
        | some v => pure (some v)) (fun r s' => ∃ v, r = some v ∧ Q v s') E s') E s := by
      refine wpAny_bind (wpAny_call (codeAny_call_builtin PySem.F.cmp_object.ne.plain PySem.F.cmpEntry_ne ?_))
      obtain ⟨nm, N, qn, bs, bm, hdct, sn, sub, ab, col, dd, k0, k1, k2, k3, k5, hC, hbm⟩ := PySem.W.excInit_of X hcl
      have hob : bm.contains (.type "object") = true := by rw [hbm]; decide +kernel
      obtain ⟨hp, gg, dr, tk, os⟩ := s
      refine wpAny_check_slot_inst PySem.F.cmpKind_ne PySem.F.cmpSplit_ne (PySem.F.cmpArgs_ne _ _) hob I.at_ I.cls hC ?_
      unfold Builtin.«object.__ne__»
      repeat (first
        | with_reducible refine wpAny_cRoomFor hu ?_
        | (refine wpAny_bind (m := callSpecialIfBound? (.ref x) (Str.ofString "__eq__") [b])
            (PySem.W.ifBound_K X I hs hf (wpAny_mono h (fun r s' hr => by
              obtain ⟨c, rfl, hq⟩ := hr
              repeat (first | exact ⟨_, rfl, hq⟩ | exact wpAny_pure ⟨_, rfl, hq⟩ | exact wpAny_pure (wpAny_pure ⟨_, rfl, hq⟩) | exact wpAny_truthy_bool hq | (refine wpAny_bind (m := truthy (.bool _)) (wpAny_truthy_bool ?_)) | wp_step)) fun _ _ e => e)))
        | wp_step)
    split
    · simp only [bnd]
      exact wpAny_bind (wpAny_pure (wpAny_pure fin))
    · simp only [bnd]
      exact wpAny_tryCatch (wpAny_bind (wpAny_pure (wpAny_pure fin)))
  unfold richCompare
  simp only [oneThing_ref]
  refine wpAny_holding (wpAny_bind (wpAny_cRoomFor (Nat.lt_of_succ_lt hu) ?_))
  refine wpAny_bind (I.type.here (wpAny_bind (hb.here ?_)))
  split
  · rename_i q
    have e : PySem.W.subIn K tb (.ref C) = some false := by
      rcases Bool.or_eq_true_iff.mp hn with e | e
      · rw [beq_iff_eq.mp e] at q; simp at q
      · exact beq_iff_eq.mp e
    refine wpAny_bind ((PySem.W.looks_subIn X e).here ?_)
    simp only [Bool.false_eq_true, if_false]
    refine wpAny_bind (wpAny_mono one (fun r s' z => ?_) fun _ _ e => e)
    obtain ⟨v, rfl, hq⟩ := z
    exact wpAny_pure hq
  · refine wpAny_bind (wpAny_pure ?_)
    simp only [Bool.false_eq_true, if_false]
    refine wpAny_bind (wpAny_mono one (fun r s' z => ?_) fun _ _ e => e)
    obtain ⟨v, rfl, hq⟩ := z
    exact wpAny_pure hq
structure NoNe (K : Frag) (C : Addr) : Prop where
  ne : PySem.W.findIn K (.ref C) "__ne__" = some (some (.builtin "object.__ne__"))
  cl : PySem.W.excInitIn K C [.type "object"] "object.__new__" = true
def rNeO (K : Frag) (C : Addr) (sp : Sp) (E : XK) : R2 := fun x y H Q => ∃ a dx fs k, x = .ref a ∧ H a = some (.ins C dx fs) ∧ Is K H y k ∧ PySem.W.notFirst K C k.ty = true ∧ sp [x, y] H (fun z H' => ∃ b, z = .bl b ∧ Q (.bl (!b)) H') E
theorem op_neO (hm : Meth X.K C "__eq__" f) (hne : NoNe X.K C) (F : FnB X.prog X.w X.K X.mg X.base k f sp) (hr : Rm j X.A) (hx : Passes (L2.CX X.prog X.w) X E) (hk : k + 1 ≤ j := by decide) : OpR X (compareOp .NotEq) (rNeO X.K C sp E) := by
  intro pins s σ H x y v u Q I rx ry h
  obtain ⟨a, dx, fs, kn, rfl, ha, hy, hn, q⟩ := h
  cases (show v = Value.ref a from rx)
  obtain ⟨mA, O, _⟩ := ins_get I.hok ha
  obtain ⟨od, J, _⟩ := O.look
  obtain ⟨m, hF⟩ := I.fr
  have hr1 : Rm (k + 1) X.A := hr.mono hk
  refine ne_K (tb := kn.ty) hr.hu hF I.ok.mod.kin J (looks_kn I ry hy _) hn hne.ne hne.cl hm.at_ hm.fn ?_
  refine wpAny_mono (wpAny_call (runB (us := [.ref a, u]) (vs := [.ref a, y]) F hr1.in1 I.env0.in1 hx I (.cons rfl (.cons ry .nil)) q)) (fun w s' z => ?_) fun _ _ x => x
  obtain ⟨z', H', I', rz, b, eb, qz⟩ := z
  subst eb
  cases (show w = Value.bool b from rz)
  exact ⟨b, rfl, .bl (!b), H', I', rfl, qz⟩
def rRepr (C : Addr) (sp : Sp) (E : XK) : List V → Hp → VK → Prop := fun xs H Q => ∃ a dx fs, xs = [.ref a] ∧ H a = some (.ins C dx fs) ∧ sp [.ref a] H (fun z H' => ∃ y, z = .str y ∧ Q (.str y) H') E
theorem call_reprO (hm : Meth X.K C "__repr__" f) (G : FnB X.prog X.w X.K X.mg X.base k f sp) (hr : Rm j X.A) (hx : Passes (L2.CX X.prog X.w) X E) (hk : k + 1 ≤ j := by decide) : CallR X (.builtin "repr") (rRepr C sp E) := by
  intro pins s σ H xs us Q I r h
  obtain ⟨a, dx, fs, rfl, ha, q⟩ := h
  obtain ⟨u, rfl, ru⟩ := r.one
  cases (show u = Value.ref a from ru)
  obtain ⟨mA, O, _⟩ := ins_get I.hok ha
  obtain ⟨od, J, _⟩ := O.look
  have hr1 : Rm (k + 1) X.A := hr.mono hk
  refine Calls.call_function_entry F.kind_repr F.plain_repr F.entry_repr (F.args_repr1 _) ?_
  unfold Builtin.«repr»
  refine wpAny_bind (m := oneArg "repr" _) (wpAny_pure ?_)
  refine wpAny_bind (wpAny_cRoomFor (by exact hr.hu) ?_)
  refine wpAny_bind (wpAny_bind (J.type.here ((PySem.W.looks_findIn I.kIn hm.at_).here ?_)))
  refine wpAny_bind (m := callSpecialIfBound? (.ref a) (Str.ofString "__repr__")) (PySem.W.ifBound_K I.kIn J hm.at_ hm.fn (wpAny_mono (wpAny_call (runB (us := [.ref a]) (vs := [.ref a]) G hr1.in1 I.env0.in1 hx I (.cons rfl .nil) q)) (fun w s' z => ?_) fun _ _ x => x))
  obtain ⟨z', H', I', rz, y, ey, qz⟩ := z
  subst ey
  obtain ⟨t, e⟩ := (show ∃ t, w = Value.str y t from rz)
  subst e
  refine wpAny_bind (wpAny_isInstance (T := "str") (b := true) rfl isSubtype_str_str ?_)
  exact wpAny_pure ⟨_, rfl, .str y, H', I', ⟨t, rfl⟩, qz⟩
def tCoF (C : Addr) (sp : Sp) (E : XK) (tf : TE) (t : TA) : TE := fun σ H Q => tf σ H fun y H1 => ∃ a, y = V.ref a ∧ t σ H1 fun vs H2 => (∃ dx fs, H2 a = some (.ins C dx fs)) ∧ sp (V.ref a :: vs) H2 Q E
theorem pe_coF {fe e : Expr} {es : List Expr} {tf : TE} {t : TA} {pos : Pos} (hf : PE X fe tf) (hm : Meth X.K C "__call__" f) (hi : PySem.W.fnIn X.K f = true) (G : FnB X.prog X.w X.K X.mg X.base k f sp) (hr : Rm j X.A) (hx : Passes (L2.CX X.prog X.w) X E) (ha : PA X (e :: es) t) (hk : k ≤ j := by decide)
    (ht : eval (.Call fe (e :: es) [] pos) X.env = (do callWith pos (← eval fe X.env) [] (backTo pos (starEach (e :: es) X.env)) (backToKw pos (keywordEach [] X.env))) := by rfl)
    (he : starEach (e :: es) X.env = (false, eval e X.env) :: starEach es X.env := by rfl) (hpl : (backTo pos (starEach es X.env)).any (·.1) = false := by rfl) : PE X (.Call fe (e :: es) [] pos) (tCoF C sp E tf t) := by
  refine ⟨fun pins s σ H Q I h => ?_⟩
  refine Call_ (thn (hf.run pins s σ H _ I h) fun u s1 ⟨y, H1, I1, ry, a, ey, q⟩ => ?_) ht
  subst ey
  cases (show u = Value.ref a from ry)
  refine StX.callO_with (thn (ha.run pos pins s1 σ H1 _ I1 q) fun us s2 ⟨vs, H2, I2, r, ⟨dx, fs, hi2⟩, q2⟩ => ?_) he hpl
  obtain ⟨ox, od, J, hd⟩ := StX.insC_at (C := C) I2 (.inr ⟨dx, fs, hi2⟩)
  exact ⟨⟨C, ox, od, J, hd⟩, wpAny_call (PySem.W.kco_code I2.kIn J hd hm.at_ hm.fn hi (runB (us := .ref a :: us) (vs := .ref a :: vs) G (hr.mono hk) I2.env0 hx I2 (.cons rfl r) q2))⟩
def rMulS : R2 := fun x y H Q => ∃ (z : Str) (n : Nat), x = .str z ∧ y = .int n ∧ z.length * n ≤ 1000000 ∧ z.length ≤ 1000000 ∧ n ≤ 1000000 ∧ Q (.str (Txt.mul z n)) H
theorem op_rep_str : OpR X (binaryOp .Mult) rMulS := by
  intro pins s σ H x y v u Q I rx ry h
  obtain ⟨z, n, rfl, rfl, h1, h2, h3, q⟩ := h
  obtain ⟨t, e⟩ := (show ∃ t, v = Value.str z t from rx)
  obtain ⟨t', e'⟩ := (show ∃ t, u = Value.int n t from ry)
  subst e
  subst e'
  refine SB.mul ⟨?_, ?_, ?_⟩ fun t' k => ⟨.str _, H, I.tok _, ⟨_, rfl⟩, q⟩
  · have a1 : ¬ ((n : Int) < -(2 ^ 63 : Int)) := by omega
    have a2 : ¬ ((n : Int) ≥ 2 ^ 63) := by omega
    rw [decide_eq_false a1, decide_eq_false a2]
    rfl
  · intro _ _ hgt
    have h4 : (1000000 : Int) ≤ (2 ^ 63 - 1) / (n : Int) := by
      refine Int.le_ediv_of_mul_le (by omega) ?_
      have : (1000000 : Int) * n ≤ 1000000 * 1000000 := Int.mul_le_mul_of_nonneg_left (by omega) (by omega)
      omega
    omega
  · intro _ _
    show decide (z.length * (n : Int).toNat > sizeLine) = false
    rw [Int.toNat_natCast]
    exact decide_eq_false (by rw [sizeLine_eq]; omega)
end
end Ah

/-! more facts for the head -/
namespace Ah
open PySem PySem.Spec PyProof.Rows L2 He
def all7 : List String := ["NoneType", "int", "bool", "str", "list", "tuple", "dict"]
def ownCB (C : Str) (K : Frag) : Bool :=
  eqO (PySem.W.findIn K (.ref (ga K C)) "__class__") (some (some (.builtin "object.__class__"))) &&
  (eqO (PySem.W.specialIn K (.builtin "object.__class__") "__get__") (some (some (.builtin "getset_descriptor.__get__"))) &&
  (decide (PySem.W.takesIn K (.builtin "object.__class__") = some true) && (decide (PySem.W.mroIn K (ga K C) (.type "object") = some true) &&
  (bTys.all fun T => decide (PySem.W.kitOne K (.ref (ga K C)) (.type T) = some false)))))
theorem ownC_ok {C : Str} {K : Frag} (c : Cls K (ga K C)) (h : ownCB C K = true) : OwnC K (ga K C) := by
  unfold ownCB at h
  obtain ⟨h1, h⟩ := ba h
  obtain ⟨h2, h⟩ := ba h
  obtain ⟨h3, h⟩ := ba h
  obtain ⟨h4, h⟩ := ba h
  exact ⟨c, eqO_ok h1, eqO_ok h2, of_decide_eq_true h3, of_decide_eq_true h4, fun T hT => of_decide_eq_true (List.all_eq_true.mp h T hT)⟩
def ownKB (C : Str) (K : Frag) : Bool := all7.all fun T => decide (PySem.W.kitOne K (.type T) (.ref (ga K C)) = some false)
theorem ownK_ok {C : Str} {K : Frag} (h : ownKB C K = true) : OwnK K (ga K C) := ⟨fun T hT => of_decide_eq_true (List.all_eq_true.mp h T hT)⟩
def firstB (C : Str) (K : Frag) : Bool := all7.all fun T => PySem.W.notFirst K (ga K C) (.type T)
theorem first_ok {C : Str} {K : Frag} (h : firstB C K = true) : ∀ T ∈ all7, PySem.W.notFirst K (ga K C) (.type T) = true := fun T hT => List.all_eq_true.mp h T hT
def noNeB (C : Str) (K : Frag) : Bool := eqO (PySem.W.findIn K (.ref (ga K C)) "__ne__") (some (some (.builtin "object.__ne__"))) && PySem.W.excInitIn K (ga K C) [.type "object"] "object.__new__"
theorem noNe_ok {C : Str} {K : Frag} (h : noNeB C K = true) : NoNe K (ga K C) := by
  obtain ⟨h1, h2⟩ := ba h
  exact ⟨eqO_ok h1, h2⟩
def fnInB (C m : Str) (K : Frag) : Bool := PySem.W.fnIn K (ma K (ga K C) m)
theorem first_of {K : Frag} {H : Hp} {C : Addr} {x : V} {k : Kn} (hf : ∀ T ∈ all7, PySem.W.notFirst K C (.type T) = true) (h : Is K H x k) (hC : ∀ a D, k = .ins a D → D = C) : PySem.W.notFirst K C k.ty = true := by
  cases h with
  | @ins a D dx fs e c =>
    cases hC a D rfl
    simp [Kn.ty, PySem.W.notFirst]
  | int i => exact hf _ (by decide)
  | bl i => exact hf _ (by decide)
  | str i => exact hf _ (by decide)
  | non => exact hf _ (by decide)
  | lst i => exact hf _ (by decide)
  | tup i => exact hf _ (by decide)
  | dct i => exact hf _ (by decide)
/-! heaps -/
def Ex (a : Addr) (H H' : Hp) : Prop := ∀ b o, b ≠ a → H b = some o → H' b = some o
theorem Ex.refl {a : Addr} {H : Hp} : Ex a H H := fun _ _ _ h => h
theorem Ex.trans {a : Addr} {H H1 H2 : Hp} (x : Ex a H H1) (y : Ex a H1 H2) : Ex a H H2 := fun b o n h => y b o n (x b o n h)
theorem Ex.upd {a : Addr} {H H' : Hp} {o : HO} (x : Ex a H H') : Ex a H (L2.upd H' a o) := fun b o' n h => by
  rw [upd_ne n]
  exact x b o' n h
theorem Ex.new {a p : Addr} {H H' : Hp} {o : HO} (x : Ex a H H') (hp : H' p = none) : Ex a H (L2.upd H' p o) := fun b o' n h => upd_keep (x b o' n h) hp
end Ah

/-! comprehensions and loops -/
namespace Ah
open PySem PySem.Spec PyProof.Rows L2 He
theorem range_map_succ {α : Type} (f : Nat → α) (n : Nat) : (List.range (n + 1)).map f = (List.range n).map f ++ [f n] := by
  rw [List.range_succ, List.map_append]
  rfl
theorem lc_pure {J : It} {n : Nat} {G : Hp → Prop} {Y : Nat → Hp → V → Hp → Prop} (w : Walk J n G Y) {k : Nat} {te : TE} {vs : List Nat} {σ : L2.St} {H1 : Hp} {Qd : Hp → Prop} {D : Addr} (f it : Nat → V) (hn : n ≤ 1000000) (hD : H1 D = none)
    (hG : ∀ H', Same H1 H' → G H') (hY : ∀ i H x H', i < n → Y i H x H' → H' = H ∧ x = it i) (hw : ∀ i, wipe ((wipe σ vs).set k (some (it i))) vs = wipe σ vs)
    (he : ∀ i, i < n → ∀ H' Q', Same H1 H' → (∀ H'', Same H' H'' → Q' (f i) H'') → te ((wipe σ vs).set k (some (it i))) H' Q')
    (hq : ∀ H', Same H1 H' → H' D = some (.lst ((List.range n).map f)) → Qd H') :
    ∃ W : Nat → Nat → Hp → Prop, (∃ m, W 0 m (upd H1 D (.lst []))) ∧ ∀ i m H, W i m H →
      (J.stop i H ∧ Qd H) ∨ (J.go i H ∧ ∃ Nx : Hp → Prop, (∀ H', Nx H' → ∃ m', m' < m ∧ W (i + 1) m' H') ∧ ∀ x H', J.yld i H x H' → gName k x (wipe σ vs) H' fun σ2 H2 => wipe σ2 vs = wipe σ vs ∧ tYes σ2 H2 fun b H3 =>
        if b = true then te σ2 H3 fun y H4 => ∃ acc, H4 D = some (.lst acc) ∧ acc.length < sizeLine ∧ Nx (upd H4 D (.lst (acc ++ [y]))) else Nx H3) := by
  refine lc_it w (fun i H' => Same H1 H' ∧ H' D = some (.lst ((List.range i).map f))) ⟨fun b o e => upd_keep e hD, upd_same⟩ (fun i H' _ p => hG H' p.1) ?_ fun H' p => hq H' p.1 p.2
  intro i x H H' hi p y
  obtain ⟨rfl, rfl⟩ := hY i H x H' hi y
  refine ⟨hw i, ?_⟩
  dsimp only [tYes]
  rw [if_pos rfl]
  refine he i hi _ _ p.1 fun H'' s => ⟨_, s _ _ p.2, ?_, ?_, ?_⟩
  · rw [List.length_map, List.length_range, sizeLine_eq]
    omega
  · intro b o e
    rw [upd_ne (ne_of_none e hD)]
    exact s b o (p.1 b o e)
  · rw [upd_same, range_map_succ]
theorem yStr {z : Str} (i : Nat) (H : Hp) (x : V) (H' : Hp) (y : H' = H ∧ ∃ c, z.cps[i]? = some c ∧ x = .str ⟨#[c]⟩) : H' = H ∧ x = .str ⟨#[z.cps.toList.getD i 0]⟩ := by
  obtain ⟨e, c, hc, rfl⟩ := y
  refine ⟨e, ?_⟩
  have : z.cps.toList[i]? = some c := by simpa using hc
  rw [List.getD_eq_getElem?_getD, this]
  rfl
theorem map_getD_range {α β : Type} (l : List α) (d : α) (g : α → β) : (List.range l.length).map (fun i => g (l.getD i d)) = l.map g := by
  apply List.ext_getElem?
  intro i
  rw [List.getElem?_map, List.getElem?_map]
  by_cases h : i < l.length
  · rw [List.getElem?_range h]
    simp [List.getD_eq_getElem?_getD, h]
  · simp [h]
theorem cps_len (z : Str) : z.cps.size = z.cps.toList.length := by simp
end Ah
namespace Ah
open PySem PySem.Spec PyProof.Rows L2 He
/-! keys -/
def chars : Str := "abcdefghijklmnopqrstuvwxyz0123456789"
def charsL : List Nat := [97, 98, 99, 100, 101, 102, 103, 104, 105, 106, 107, 108, 109, 110, 111, 112, 113, 114, 115, 116, 117, 118, 119, 120, 121, 122, 48, 49, 50, 51, 52, 53, 54, 55, 56, 57]
theorem chars_eq : chars.cps.toList = charsL := by decide +kernel
theorem charsL_small : ∀ c, c < 128 → decide (c ∈ charsL) = keySign c := by decide +kernel
theorem charsL_max : ∀ c ∈ charsL, c < 128 := by decide +kernel
theorem chars_mem (c : Nat) : decide (c ∈ chars.cps.toList) = keySign c := by
  rw [chars_eq]
  by_cases h : c < 128
  · exact charsL_small c h
  · rw [decide_eq_false fun z => h (charsL_max c z)]
    unfold keySign
    rw [decide_eq_false (by omega : ¬ c ≤ 122), decide_eq_false (by omega : ¬ c ≤ 57)]
    simp
theorem str_len (z : Str) : z.length = z.cps.toList.length := by simp [Str.length]
end Ah

/-! fields, pools -/
namespace Ah
open PySem PySem.Spec PyProof.Rows L2 He
theorem look0 {f : Str} {v : V} {r : List (Str × V)} : List.lookup f ((f, v) :: r) = some v := by simp [List.lookup]
theorem lookS {f g : Str} {w : V} {r : List (Str × V)} (h : f ≠ g) : List.lookup f ((g, w) :: r) = List.lookup f r := by
  have e : (f == g) = false := by simpa using h
  simp [List.lookup, e]
theorem putF0 {f : Str} {v : V} : putF f v [] = [(f, v)] := rfl
theorem putF_hit {f : Str} {v w : V} {r : List (Str × V)} : putF f v ((f, w) :: r) = (f, v) :: r := by
  show (if f = f then _ else _) = _
  rw [if_pos rfl]
theorem putFS {f g : Str} {v w : V} {r : List (Str × V)} (h : g ≠ f) : putF f v ((g, w) :: r) = (g, w) :: putF f v r := by
  show (if g = f then _ else _) = _
  rw [if_neg h]
end Ah
namespace Ah
open PySem PySem.Spec PyProof.Rows L2 He
theorem ixL {K : Frag} {H : Hp} {a : Addr} {xs : List V} {i : Int} {v : V} {Q : VK} (h : SqL K H a xs) (e : atI xs i = some v) (q : Q v H) : rIxL K (.ref a) (.int i) H Q := ⟨a, xs, i, v, rfl, rfl, h, e, q⟩
theorem ixT {K : Frag} {H : Hp} {a : Addr} {xs : List V} {i : Int} {v : V} {Q : VK} (h : SqT K H a xs) (e : atI xs i = some v) (q : Q v H) : rIxT K (.ref a) (.int i) H Q := ⟨a, xs, i, v, rfl, rfl, h, e, q⟩
theorem setL {H : Hp} {a : Addr} {xs : List V} {i : Int} {j : Nat} {v : V} {Q : Hp → Prop} (h : H a = some (.lst xs)) (e : ixN xs.length i = some j) (q : Q (upd H a (.lst (xs.set j v)))) : rSetL (.ref a) (.int i) v H Q := ⟨a, xs, i, j, rfl, rfl, h, e, q⟩
theorem head_int (l : List Int) : ∃ i, atI (l.map V.int ++ [V.int 0]) 0 = some (V.int i) := by
  cases l with
  | nil => exact ⟨0, rfl⟩
  | cons x r =>
    refine ⟨x, ?_⟩
    unfold atI
    have e : ixN ((List.map V.int (x :: r) ++ [V.int 0]).length) 0 = some 0 := by
      simp [ixN]
      omega
    rw [e]
    rfl
theorem cutV_int (l : List Int) (lo hi : Option Int) : ∃ l' : List Int, cutV (l.map V.int) lo hi = l'.map V.int ∧ l'.length ≤ l.length := by
  refine ⟨(l.drop (HT.sIx (l.map V.int).length 0 lo)).take (HT.sIx (l.map V.int).length (l.map V.int).length hi - HT.sIx (l.map V.int).length 0 lo), ?_, ?_⟩
  · unfold cutV
    rw [List.map_take, List.map_drop]
  · rw [List.length_take, List.length_drop]
    omega
end Ah

/-! data compared -/
namespace Ah
open PySem PySem.Spec PyProof.Rows L2 He
theorem eqD_same {K : Frag} {H : Hp} {x y : V} {Q : VK} (d : PyData) (hx : Dp K H x d) (hy : Dp K H y d) (hs : SeqAt.shaped d = true) (q : Q (.bl true) H) : rEqD K x y H Q := by
  refine ⟨d, d, hx, hy, hs, hs, ?_⟩
  rw [SeqAt.eqv_refl d (SeqAt.canLay_of_shaped hs)]
  exact q
end Ah
namespace Ah
open PySem PySem.Spec PyProof.Rows L2 He
def PoolAt (H : Hp) (a : Addr) : Prop := ∃ p q : Int, H a = some (.lst [.int p, .int q])
theorem PoolAt.same {H H' : Hp} {a : Addr} (h : PoolAt H a) (s : Same H H') : PoolAt H' a := by
  obtain ⟨p, q, h⟩ := h
  exact ⟨p, q, s _ _ h⟩
theorem PoolAt.ne {H : Hp} {a b : Addr} (h : PoolAt H a) (hb : H b = none) : b ≠ a := by
  obtain ⟨p, q, h⟩ := h
  exact (ne_of_none h hb).symm
end Ah

/-! own exceptions over one of four built-in ones -/
namespace Ah
open PySem PySem.Spec PyProof.Rows L2 He
inductive EB where
  | ve | le | re | oe
def EB.nm : EB → String
  | .ve => "ValueError" | .le => "LookupError" | .re => "RuntimeError" | .oe => "OverflowError"
def EB.nw : EB → String
  | .ve => "ValueError.__new__" | .le => "LookupError.__new__" | .re => "RuntimeError.__new__" | .oe => "OverflowError.__new__"
def EB.it : EB → String
  | .ve => "ValueError.__init__" | .le => "LookupError.__init__" | .re => "RuntimeError.__init__" | .oe => "OverflowError.__init__"
def EB.tl : EB → List Value
  | .ve => [.type "ValueError", .type "Exception", .type "BaseException", .type "object"]
  | .le => [.type "LookupError", .type "Exception", .type "BaseException", .type "object"]
  | .re => [.type "RuntimeError", .type "Exception", .type "BaseException", .type "object"]
  | .oe => [.type "OverflowError", .type "ArithmeticError", .type "Exception", .type "BaseException", .type "object"]
theorem EB.base (b : EB) : ExcBaseFacts b.nm b.nw b.it b.tl := by
  cases b
  · exact F.excBase_ValueError
  · exact F.excBase_LookupError
  · exact F.excBase_RuntimeError
  · exact F.excBase_OverflowError
theorem EB.store (b : EB) : StoreFacts b.nm b.tl "object.__setattr__" "object" := by
  cases b
  · exact F.store_ValueError
  · exact F.store_LookupError
  · exact F.store_RuntimeError
  · exact F.store_OverflowError
structure OexG (K : Frag) (C : Addr) : Prop where
  cls : ∃ (b : EB) (nm q : Str) (N : Addr) (bs : List Value) (sn : List Str) (sub : List Value) (ab : Bool) (col : Option Bool) (dd : Option Addr) (k0 k1 k2 k3 k5 : Option Value), K.lookup C = some (excClassObj nm q C N bs b.tl true sn sub ab col dd k0 k1 k2 k3 k5 b.nw)
  sa : PySem.W.findIn K (.ref C) "__setattr__" = some (some (.builtin "object.__setattr__"))
  exC : PySem.W.subIn K (.ref C) (.type "BaseException") = some true
  tyC : PySem.W.typeIn K (.ref C) = some (.type "type")
  kC : PySem.W.keepIn K (.ref C) = true
theorem tail_self (b : EB) : PySem.W.excTail b.tl b.tl = true := by cases b <;> decide +kernel
section
variable {K : Frag} {C : Addr}
theorem OexG.over (T : OexG K C) : ∃ b : EB, PySem.W.excOver K C b.tl = true ∧ ∃ cd, PySem.W.clsIn K C = some cd ∧ cd.hasDict = true := by
  obtain ⟨b, nm, q, N, bs, sn, sub, ab, col, dd, k0, k1, k2, k3, k5, hC⟩ := T.cls
  have hcl : PySem.W.clsIn K C = some { name := nm, bases := bs, mro := .ref C :: b.tl, ns := N, qualname := q, hasDict := true, slotNames := sn, subclasses := sub, abstract := ab, collection := col, hasDel := false } := by
    unfold PySem.W.clsIn
    rw [hC] <;> rfl
  refine ⟨b, ?_, _, hcl, rfl⟩
  unfold PySem.W.excOver
  rw [hcl]
  show (C == C && PySem.W.excTail b.tl b.tl) = true
  rw [tail_self b]
  simp
end
section
variable {prog : Program} {w : World} {A : Around} {hp : Heap} {g : Array GenState} {d : Drawn} {t : Nat} {os : OsState} {R : Result → Shared → Prop}
theorem osaN {K : Frag} {name : Str} {tk : Tok} {v : Value} {x C : Addr} {fv : Array Value} (T : OexG K C) (X : K.In hp) (hx : hp.get? x = some { cls := .ref C, data := .fields fv }) (ha : PySem.W.findIn K (.ref C) name = some none)
    (hq : ∀ h' tk' dx, (∀ b o, b ≠ x → hp.get? b = some o → h'.get? b = some o) → hp.objs.size ≤ dx → dx ≠ x → h'.get? x = some { cls := .ref C, dict := some dx, data := .fields fv } →
      h'.Ns1 dx (fun y => if y = name then some v else none) → R (.ok (.ret .none)) ⟨h', g, d, tk', os⟩) :
    codeAny (model prog w) A (.call (.builtin "object.__setattr__") ⟨[.ref x, .str name tk, v], []⟩) R ⟨hp, g, d, t, os⟩ := by
  obtain ⟨b, ho, cd, hcd, hh⟩ := T.over
  have hxs : x ≠ hp.objs.size := Nat.ne_of_lt (Heap.lt_size hx)
  refine PySem.W.osa_openX (s := ⟨hp, g, d, t, os⟩) (od := none) (r := none) b.store X ⟨hx, rfl, rfl, trivial⟩ ho (by unfold PySem.W.takerIn; rw [ha]; rfl) fun bb => ?_
  have hcls : PySem.W.Looks (model prog w) hp (classData C) cd := PySem.W.looks_clsIn X hcd
  dsimp only
  obtain ⟨nm, bs, mro, ns, qn, hd, sn, sb, ab, col, del⟩ := cd
  dsimp only at hh
  subst hh
  unfold PySem.Builtin.ObjectAttr.storeInOwnDict PySem.Builtin.ObjectAttr.ownDictForStores
  repeat (first | with_reducible refine PySem.HandSPX.store_in_new ?_ ?_ | with_reducible refine wpAny_loadPart_at hx ?_ | with_reducible refine hcls.at ?_ | wp_step)
  · exact ⟨_, #[], _, (Heap.get?_update_ne _ _ _ _ hxs.symm).trans (Heap.get?_push_at rfl rfl), rfl, fun e he => absurd he (by simp), fun _ => rfl⟩
  · intro h' tk' hn' hs
    have hx₁ : (hp.push { cls := .type "dict", data := .dict #[] }).get? x = some { cls := .ref C, data := .fields fv } := Heap.get?_push_of_some _ hx
    refine hq h' tk' hp.objs.size (fun b o hb ho => ?_) (Nat.le_refl _) hxs.symm ?_ hn'
    · exact (hs.2 b (Nat.ne_of_lt (Heap.lt_size ho))).trans ((Heap.get?_update_ne _ _ _ _ hb).trans (Heap.get?_push_of_some _ ho))
    · exact (hs.2 x hxs).trans (Heap.get?_update_self _ hx₁ rfl)
theorem osaO {K : Frag} {name : Str} {tk : Tok} {v : Value} {x C dx : Addr} {fv : Array Value} {m0 : Str → Option Value} {nl : List Str} (T : OexG K C)
    (X : K.In hp) (hx : hp.get? x = some { cls := .ref C, dict := some dx, data := .fields fv }) (hns : hp.Ns1 dx m0) (hw : PySem.Within m0 nl) (hz : nl.length ≤ 1000) (ha : PySem.W.findIn K (.ref C) name = some none)
    (hq : ∀ h' tk', (∀ b o, b ≠ dx → hp.get? b = some o → h'.get? b = some o) → h'.Ns1 dx (fun y => if y = name then some v else m0 y) → R (.ok (.ret .none)) ⟨h', g, d, tk', os⟩) :
    codeAny (model prog w) A (.call (.builtin "object.__setattr__") ⟨[.ref x, .str name tk, v], []⟩) R ⟨hp, g, d, t, os⟩ := by
  obtain ⟨oD, esD, epD, hoD, hdD, _⟩ := hns.count hw
  obtain ⟨b, ho, cd, hcd, hh⟩ := T.over
  refine PySem.W.osa_openX (s := ⟨hp, g, d, t, os⟩) (od := some oD) (r := none) b.store X ⟨hx, rfl, rfl, hoD⟩ ho (by unfold PySem.W.takerIn; rw [ha]; rfl) fun bb => ?_
  have hcls : PySem.W.Looks (model prog w) hp (classData C) cd := PySem.W.looks_clsIn X hcd
  dsimp only
  obtain ⟨nm, bs, mro, ns, qn, hd, sn, sb, ab, col, del⟩ := cd
  dsimp only at hh
  subst hh
  unfold PySem.Builtin.ObjectAttr.storeInOwnDict PySem.Builtin.ObjectAttr.ownDictForStores
  repeat (first | with_reducible refine PySem.OEX.store_in_old hns hw hz ?_ | with_reducible refine wpAny_loadPart_at hx ?_ | with_reducible refine hcls.at ?_ | wp_step)
  intro h' tk' hn' hs
  exact hq h' tk' (fun b o hb ho => (hs.2 b hb).trans ho) hn'
end
section
variable {X : Cx} {pins : List (Addr × Obj)} {σ : L2.St} {H : Hp} {s : Shared} {a C dx : Addr} {f : Str} {y : V} {u : Value} {fs : List (Str × V)} {Q : Unit → Shared → Prop} {E : Value → Shared → Prop} {A : Around}
theorem stN (T : OexG X.K C) (I : L2.Inv X pins σ H s) (e : H a = some (exo a C none)) (hno : PySem.W.findIn X.K (.ref C) f = some none) (ry : RelV y u)
    (h : ∀ dx s', H dx = none → dx ≠ a → L2.Inv X pins σ (upd (upd H dx (exd dx [(f, y)])) a (exo a C (some dx))) s' → Q () s') : wpAny (model X.prog X.w) A (setAttr (.ref a) f u) Q E s := by
  obtain ⟨t1, ho⟩ := exo_at I.hok e
  obtain ⟨hp, g, d, t, os⟩ := s
  refine PySem.W.set_plain I.kIn (ox := { cls := .ref C, dict := none, data := .fields #[.ref t1, .none, .none, .none, .bool false, .none] }) (od := none) ⟨ho, rfl, rfl, trivial⟩ T.sa ?_
  refine osaN T I.kIn ho hno (fun h' tk' dx k dn dne hx hn => ?_)
  have hnd : H dx = none := I.hok.fresh dn
  have nd : ∀ {b : Addr} {o : Obj}, hp.get? b = some o → b ≠ dx := fun q => Nat.ne_of_lt (Nat.lt_of_lt_of_le (Heap.lt_size q) dn)
  have na : ∀ {b : Addr}, H b = none → b ≠ a := fun n z => by rw [z, e] at n; cases n
  have off : ∀ {b : Addr} {v : HO}, H b = some v → v ≠ exo a C none → upd (upd H dx (exd dx [(f, y)])) a (exo a C (some dx)) b = some v := fun {b v} q n => by
    have hba : b ≠ a := fun z => by
      rw [z, e] at q
      exact n (Option.some.inj q).symm
    rw [upd_ne hba, upd_ne (ne_of_none q hnd)]
    exact q
  have U : Un X.fs [] H (upd (upd H dx (exd dx [(f, y)])) a (exo a C (some dx))) hp h' := {
    keep := fun b o q n _ _ => k b o (na n) q
    slot := fun b o q n _ _ => ⟨o.slots, k b o (na n) q⟩
    free := fun b o q n _ => by rw [upd_ne (na n), upd_ne (nd q)]; exact n
    there := fun b o q _ => by
      by_cases hb : b = a
      · subst hb
        exact ⟨_, hx⟩
      · exact ⟨o, k b o hb q⟩
    tups := fun b xs q => off q (fun z => exo_tup z.symm)
    frzs := fun b o v q => off q (fun z => exo_frz z.symm)
    tbls := fun b ps q => ⟨#[], by rw [off q (fun z => exo_tbl z.symm)]; simp⟩ }
  refine h dx _ hnd dne (I.un (t' := tk') U fun b o q => ?_)
  by_cases hb : b = a
  · subst hb
    rw [upd_same] at q
    cases q
    exact exo_ok hx
  · rw [upd_ne hb] at q
    by_cases hd : b = dx
    · subst hd
      rw [upd_same] at q
      cases q
      exact exd_ok hn (relO_put (fs := []) ry fun g => True.intro)
    · rw [upd_ne hd] at q
      refine (I.hok b o q).stay (fun c v hc z => k c v (fun hca => ?_) z) (fun c hc => off hc (fun z => exo_own z.symm)) (fun c xs hc => off hc (fun z => exo_tup z.symm))
      rcases hc with hc | hc
      · exact hb (hc.symm.trans hca)
      · rw [hca, e] at hc
        exact exo_own (Option.some.inj hc)
theorem stO (T : OexG X.K C) (I : L2.Inv X pins σ H s) (e : H a = some (exo a C (some dx))) (ed : H dx = some (exd dx fs)) (hl : fs.length ≤ 900) (hno : PySem.W.findIn X.K (.ref C) f = some none) (ry : RelV y u)
    (h : ∀ s', L2.Inv X pins σ (upd H dx (exd dx ((f, y) :: fs))) s' → Q () s') : wpAny (model X.prog X.w) A (setAttr (.ref a) f u) Q E s := by
  obtain ⟨t1, ho⟩ := exo_at I.hok e
  obtain ⟨mA, hns, rel⟩ := exd_at I.hok ed
  have hw := within_of rel
  obtain ⟨hp, g, d, t, os⟩ := s
  obtain ⟨oD, _, _, hoD, _, _⟩ := hns.count hw
  refine PySem.W.set_plain I.kIn (ox := { cls := .ref C, dict := some dx, data := .fields #[.ref t1, .none, .none, .none, .bool false, .none] }) (od := some oD) ⟨ho, rfl, rfl, hoD⟩ T.sa ?_
  refine osaO T I.kIn ho hns hw (by rw [List.length_map]; omega) hno (fun h' tk' k hn => ?_)
  obtain ⟨o, es, ep, e', r⟩ := id hn
  exact h _ (I.write (t' := tk') (x := dx) (e := dx) (o := exd dx ((f, y) :: fs)) (by rw [ed]; exact True.intro) (.inl rfl) k ⟨o, e'⟩ (exd_ok hn (relO_put ry rel)))
end
def tStG (K : Frag) (f : Str) (to te : TE) : TS := fun D σ H => te σ H fun y H1 => to σ H1 fun x H2 => ∃ a C : Addr, x = .ref a ∧ OexG K C ∧ PySem.W.findIn K (.ref C) f = some none ∧
  ((H2 a = some (exo a C none) ∧ ∀ dx, H2 dx = none → dx ≠ a → D.nx σ (upd (upd H2 dx (exd dx [(f, y)])) a (exo a C (some dx)))) ∨
    ∃ (dx : Addr) (fs : List (Str × V)), H2 a = some (exo a C (some dx)) ∧ H2 dx = some (exd dx fs) ∧ fs.length ≤ 900 ∧ D.nx σ (upd H2 dx (exd dx ((f, y) :: fs))))
section
variable {X : Cx} {o e : Expr} {es : List Expr} {to te : TE} {ta : TA} {f : Str} {p p' p1 p2 pos : Pos}
theorem ps_stG (ho : PE X o to) (he : PE X e te) (hs : swapsWith e (some (.Attribute o f p')) pos.line X.env = pure false := by rfl) : PS X (.Assign [.Attribute o f p'] e pos) (tStG X.K f to te) := by
  refine ⟨fun pins s σ H D I h => plainObj_wpAny_Assign_Attribute (thn (he.run pins s σ H _ I h) fun v s1 ⟨y, H1, I1, r1, q1⟩ => thn (ho.run pins s1 σ H1 _ I1 q1) fun u s2 ⟨x, H2, I2, r2, a, C, ex, T, hno, q⟩ => ?_) hs⟩
  subst ex
  obtain rfl : u = Value.ref a := r2
  rcases q with ⟨ea, q⟩ | ⟨dx, fs, ea, ed, hl, q⟩
  · exact stN T I2 ea hno r1 fun dx s' n ne J => ⟨σ, _, J, q dx n ne⟩
  · exact stO T I2 ea ed hl hno r1 fun s' J => ⟨σ, _, J, q⟩
theorem pmkG {CX : CXT} {x : Str} {C fI : Addr} {k : Nat} {fd : FuncData} {ps : List Str} {sp : Sp} (T : OexG X.K C) (iC : PySem.W.findIn X.K (.ref C) "__init__" = some (some (.ref fI))) (tI : PySem.W.typeIn X.K (.ref fI) = some (.type "function"))
    (F1 : FnOk X.prog X.w X.K X.mg X.base CX k fI fd ps sp) (hr : Room (k + 1) X.A) (hb : Binds X.K fd ps []) (hx : Passes CX X (fun _ _ _ => False)) (hg : Gl X x) (hm : X.mg x = some (.ref C)) (ha : PA X (e :: es) ta)
    (hdb : (x == ("__debug__" : Str)) = false := by decide) (he : starEach (e :: es) X.env = (false, eval e X.env) :: starEach es X.env := by rfl) (hpl : (backTo pos (starEach es X.env)).any (·.1) = false := by rfl) :
    PMk X (.Call (.Name x p) (e :: es) [] pos) (tMkO C sp [] ta) := by
  intro pins s σ H Q I h
  obtain ⟨b, nm, q, N, bs, sn, sub, ab, col, dd, k0, k1, k2, k3, k5, hC⟩ := T.cls
  refine wpAny_Call_Name_kw (ld_glob I hg hm ?_ hdb)
  refine PySem.W.callWith_K (h₀ := X.base) I.ok.mod.kin T.kC (thn (ha.run pos pins s σ H _ I h) fun us s1 ⟨vs, H1, I1, r1, hz, q1⟩ => ⟨I1.kIn, ?_⟩) he hpl
  show wpAny _ _ (call (.ref C) us) _ _ _
  obtain ⟨hp, g, dr, tk, os⟩ := s1
  have hsz : hp.objs.size ≤ hp.objs.size + 1 := Nat.le_succ _
  have hn : H1 (hp.objs.size + 1) = none := I1.hok.fresh hsz
  have hq := q1 (hp.objs.size + 1) hn
  rw [List.append_nil] at hq
  have kk : ∀ b o, hp.get? b = some o → ((hp.push (PySem.W.kdv_tup us)).push (PySem.HandSPX.excO C hp.objs.size)).get? b = some o := fun b o e => Heap.get?_push_of_some _ (Heap.get?_push_of_some _ e)
  have hget : ((hp.push (PySem.W.kdv_tup us)).push (PySem.HandSPX.excO C hp.objs.size)).get? (hp.objs.size + 1) = some (PySem.HandSPX.excO C hp.objs.size) := by heap_get
  have I2 : L2.Inv X pins σ (upd H1 (hp.objs.size + 1) (exo (hp.objs.size + 1) C none)) ⟨(hp.push (PySem.W.kdv_tup us)).push (PySem.HandSPX.excO C hp.objs.size), g, dr, tk, os⟩ :=
    I1.laid (t' := tk) (a := hp.objs.size + 1) (o := exo (hp.objs.size + 1) C none) (h' := (hp.push (PySem.W.kdv_tup us)).push (PySem.HandSPX.excO C hp.objs.size)) kk hsz (exo_ok hget)
  have r2 : Vals (V.ref (hp.objs.size + 1) :: vs) (Value.ref (hp.objs.size + 1) :: us) := .cons rfl r1
  have hl : (Value.ref (hp.objs.size + 1) :: us ++ []).length = ps.length := by
    rw [List.append_nil, ← r2.length]
    exact F1.len _ _ _ _ hq
  have hus : us.length ≤ sizeLine := by
    rw [← Paired.length r1, sizeLine_eq]
    omega
  have bb := hb _ (Value.ref (hp.objs.size + 1) :: us) I2.kIn hl
  rw [List.append_nil] at bb
  refine wpAny_call (PySem.HandSPX.call_own b.base (fun Y => rfl) (I1.kIn _ _ hC) (PySem.W.looks_findIn I1.kIn iC) (fun self => PySem.W.bind_fn I1.kIn self tI) hus
    (codeAny_mono (F1.run _ X.stack _ _ ⟨Value.ref (hp.objs.size + 1) :: us, []⟩ (Value.ref (hp.objs.size + 1) :: us) _ _ (fun _ _ _ => False) (hr.make C us []) (I2.env0.make C us []) bb r2 hq) fun r s' hq' => ?_))
  match r, hq' with
  | .error er, hq' => exact hx pins σ _ _ er s' I2 hq'
  | .ok (.ret u), hq' =>
    obtain ⟨v, H2, os2, bare2, un2, hok2, rv, ev, d, fs, ea, ed, hd1, q2⟩ := hq'
    subst ev
    obtain ⟨h2, g2, d2, t2, os'⟩ := s'
    exact ⟨rv, mk_end (raises_own T.exC T.tyC) I1 hsz kk un2 hok2 os2 bare2 ea ed hd1 q2⟩
end
end Ah

/-! exceptions of the program's own over ValueError, with one or two fields -/
namespace Ah
open PySem PySem.Spec PyProof.Rows L2 He
def oexB (b : EB) (C : Str) (K : Frag) : Bool :=
  (match K.lookup (ga K C) with
    | some ⟨.type "type", _, .cls cd, sl⟩ => (match cd.mro, sl.toList with
      | .ref C' :: bm, [_, _, _, _, some (.builtin n), _] => C' == ga K C && (n == b.nw && (!cd.hasDel && (cd.hasDict && (bm == b.tl))))
      | _, _ => false)
    | _ => false) &&
  (eqO (PySem.W.findIn K (.ref (ga K C)) "__setattr__") (some (some (.builtin "object.__setattr__"))) &&
  (decide (PySem.W.subIn K (.ref (ga K C)) (.type "BaseException") = some true) && (decide (PySem.W.typeIn K (.ref (ga K C)) = some (.type "type")) && PySem.W.keepIn K (.ref (ga K C)))))
theorem oex_ok {b : EB} {C : Str} {K : Frag} (h : oexB b C K = true) : OexG K (ga K C) := by
  unfold oexB at h
  obtain ⟨h0, h⟩ := ba h
  obtain ⟨h1, h⟩ := ba h
  obtain ⟨h2, h⟩ := ba h
  obtain ⟨h3, h4⟩ := ba h
  refine ⟨?_, eqO_ok h1, of_decide_eq_true h2, of_decide_eq_true h3, h4⟩
  split at h0
  · rename_i dd cd sl ho
    split at h0
    · rename_i C' bm k0 k1 k2 k3 n k5 hm hsl
      obtain ⟨e1, h0⟩ := ba h0
      obtain ⟨e2, h0⟩ := ba h0
      obtain ⟨e3, h0⟩ := ba h0
      obtain ⟨e4, e5⟩ := ba h0
      have e1' : C' = ga K C := beq_iff_eq.mp e1
      have e2' : n = b.nw := beq_iff_eq.mp e2
      have e5' : bm = b.tl := beq_iff_eq.mp e5
      subst e1' e2' e5'
      obtain ⟨nm, bs, mro, ns, qn, hd, sn, sb, ab, col, del⟩ := cd
      dsimp only at hm e3 e4
      subst hm
      have e3' : del = false := by simpa using e3
      have e4' : hd = true := e4
      subst e3' e4'
      have es : sl = #[k0, k1, k2, k3, some (.builtin b.nw), k5] := by
        apply Array.ext'
        rw [hsl]
      subst es
      exact ⟨b, _, _, _, _, _, _, _, _, _, _, _, _, _, _, ho⟩
    · cases h0
  · cases h0
def spX1 (C : Addr) (f : Str) : Sp := fun vs H Q _ => ∃ (a : Addr) (v : V), vs = [.ref a, v] ∧ H a = some (exo a C none) ∧ ∀ dx, H dx = none → dx ≠ a → Q .non (upd (upd H dx (exd dx [(f, v)])) a (exo a C (some dx)))
def spX2 (C : Addr) (f g : Str) : Sp := fun vs H Q _ => ∃ (a : Addr) (v w : V), vs = [.ref a, v, w] ∧ H a = some (exo a C none) ∧ ∀ dx, H dx = none → dx ≠ a → Q .non (upd (upd (upd H dx (exd dx [(f, v)])) a (exo a C (some dx))) dx (exd dx [(g, w), (f, v)]))
structure FnU (P : Program) (w : World) (K : Frag) (mg : Str → Option Value) (base : Heap) (k : Nat) (f : Addr) (sp : Sp) : Prop where
  ex : ∃ fd ps, FnOk P w K mg base (L2.CX P w) k f fd ps sp ∧ Binds K fd ps []
theorem okU {P : Program} {w : World} {K : Frag} {mg : Str → Option Value} {base : Heap} {N ps : List Str} {k : Nat} {sp : Sp} {d : DefG} (S : Stands K d) (h0 : d.dfl = []) (sc : FnScope N ps d.scope) (len : ∀ vs H Q E, sp vs H Q E → vs.length = ps.length)
    (hb : ∀ (kV doc pm : Value) (an : Option Addr) (cdv ct : Value) (us : List Value), us.length = ps.length → bindArgs (PySem.W.fnOf d.name d.qual d.params d.body d.scope .none kV doc pm an cdv ct) ⟨us, []⟩ = pure (ps.zip us))
    (hbody : ∀ (cdv : Value) (A : Around) (outer : List Env) (s : Shared) (H : Hp) (vs : List V) (Q : VK) (E : XK), Room k (A.deeper (envOfC d.qual d.scope s.heap.objs.size (d.ad K) cdv)) → sp vs H Q E →
      ∃ t, PSs (cxOf (L2.CX P w) P w K mg base N d.qual d.scope (d.ad K) cdv A outer s H E) d.body t ∧ t { nx := fun _ H' => Q .non H', rt := Q } (L2.start N vs) H) : FnU P w K mg base (k + 1) (d.ad K) sp := by
  obtain ⟨fd, F⟩ := S
  have e : d.dvs K = [] := by unfold DefG.dvs; rw [h0]; rfl
  rw [e] at F
  exact ⟨⟨fd, ps, F.ok sc len hbody, F.bindsN hb⟩⟩
structure ExcT (K : Frag) (mg : Str → Option Value) (C : Str) : Prop where
  g : mg C = some (.ref (ga K C))
  o : OexG K (ga K C)
  i : PySem.W.findIn K (.ref (ga K C)) "__init__" = some (some (.ref (ma K (ga K C) "__init__")))
  t : PySem.W.typeIn K (.ref (ma K (ga K C) "__init__")) = some (.type "function")
def excTB (b : EB) (C : Str) (K : Frag) : Bool := oexB b C K && (eqO (PySem.W.findIn K (.ref (ga K C)) "__init__") (some (some (.ref (ma K (ga K C) "__init__")))) && decide (PySem.W.typeIn K (.ref (ma K (ga K C) "__init__")) = some (.type "function")))
theorem excT_ok {b : EB} {C : Str} {K : Frag} {mg : Str → Option Value} (g : mg C = some (.ref (ga K C))) (h : excTB b C K = true) : ExcT K mg C := by
  obtain ⟨h1, h⟩ := ba h
  obtain ⟨h2, h3⟩ := ba h
  exact ⟨g, oex_ok h1, eqO_ok h2, of_decide_eq_true h3⟩
section
variable {X : Cx} {C : Str} {e : Expr} {es : List Expr} {ta : TA} {sp : Sp} {k j : Nat} {p pos pos2 : Pos} {W : WX}
theorem ps_raiseC (hc : X.calm = true) (tk : Takes X W) (T : ExcT X.K X.mg C) (F : FnU X.prog X.w X.K X.mg X.base k (ma X.K (ga X.K C) "__init__") sp) (hr : Rm j X.A) (ha : PA X (e :: es) ta) (hk : k + 1 ≤ j := by decide) (hg : Gl X C := by rfl)
    (hdb : (C == ("__debug__" : Str)) = false := by decide) (he : starEach (e :: es) X.env = (false, eval e X.env) :: starEach es X.env := by rfl) (hpl : (backTo pos (starEach es X.env)).any (·.1) = false := by rfl) :
    PS X (.Raise (some (.Call (.Name C p) (e :: es) [] pos)) none pos2) (fun _ σ H => tMkO (ga X.K C) sp [] ta σ H fun cls d H' => W cls d σ H') := by
  obtain ⟨⟨fd, ps, G, b⟩⟩ := F
  exact ps_raise hc tk (pmkG T.o T.i T.t G (hr.r.mono hk) b passL hg T.g ha hdb he hpl)
end
section
variable {K : Frag} {C : Addr} {f g : Str} {v w : V} {H : Hp} {Q : XK}
theorem mkX1 (q : ∀ d, H d = none → Q (.ref C) (some d) (upd H d (.xd [(f, v)]))) (a : Addr) (ha : H a = none) : spX1 C f [.ref a, v] (upd H a (exo a C none))
    (fun x H2 => x = .non ∧ ∃ (d : Addr) (fs : List (Str × V)), H2 a = some (exo a C (some d)) ∧ H2 d = some (exd d fs) ∧ H d = none ∧ Q (.ref C) (some d) (upd (del H2 a) d (.xd fs))) fun _ _ _ => False := by
  refine ⟨a, v, rfl, upd_same, fun dx hd ne => ⟨rfl, dx, [(f, v)], upd_same, by rw [upd_ne ne, upd_same], by rw [upd_ne ne] at hd; exact hd, ?_⟩⟩
  rw [upd_ne ne] at hd
  have e : upd (del (upd (upd (upd H a (exo a C none)) dx (exd dx [(f, v)])) a (exo a C (some dx))) a) dx (.xd [(f, v)]) = upd H dx (.xd [(f, v)]) := by
    funext b
    by_cases h1 : b = dx
    · rw [h1, upd_same, upd_same]
    · rw [upd_ne h1, upd_ne h1]
      by_cases h2 : b = a
      · rw [h2, del_same, ha]
      · rw [del_ne h2, upd_ne h2, upd_ne h1, upd_ne h2]
  rw [e]
  exact q dx hd
theorem mkX2 (q : ∀ d, H d = none → Q (.ref C) (some d) (upd H d (.xd [(g, w), (f, v)]))) (a : Addr) (ha : H a = none) : spX2 C f g [.ref a, v, w] (upd H a (exo a C none))
    (fun x H2 => x = .non ∧ ∃ (d : Addr) (fs : List (Str × V)), H2 a = some (exo a C (some d)) ∧ H2 d = some (exd d fs) ∧ H d = none ∧ Q (.ref C) (some d) (upd (del H2 a) d (.xd fs))) fun _ _ _ => False := by
  refine ⟨a, v, w, rfl, upd_same, fun dx hd ne => ⟨rfl, dx, [(g, w), (f, v)], by rw [upd_ne ne.symm, upd_same], upd_same, by rw [upd_ne ne] at hd; exact hd, ?_⟩⟩
  rw [upd_ne ne] at hd
  have e : upd (del (upd (upd (upd (upd H a (exo a C none)) dx (exd dx [(f, v)])) a (exo a C (some dx))) dx (exd dx [(g, w), (f, v)])) a) dx (.xd [(g, w), (f, v)]) = upd H dx (.xd [(g, w), (f, v)]) := by
    funext b
    by_cases h1 : b = dx
    · rw [h1, upd_same, upd_same]
    · rw [upd_ne h1, upd_ne h1]
      by_cases h2 : b = a
      · rw [h2, del_same, ha]
      · rw [del_ne h2, upd_ne h1, upd_ne h2, upd_ne h1, upd_ne h2]
  rw [e]
  exact q dx hd
end
end Ah

/-! try with several clauses 'except x as n' -/
namespace Ah
open PySem PySem.Spec PyProof.Rows L2 He
structure Clause where
  c : Value
  i : Nat
  ts : Addr → Value → Option Addr → TS
inductive HdA (X : Cx) : List ExceptHandler → List Clause → Prop
  | nil : HdA X [] []
  | cons {x n : Str} {k : Clause} {b₀ : Stmt} {suite : List Stmt} {np pos' : Pos} {hds : List ExceptHandler} {l : List Clause} (hc : Names X x k.c) (hi : X.N[k.i]? = some n) (hln : X.env.kindOf n = some .local)
      (hsu : ∀ (a : Addr) (oe : Obj) (cls : Value) (d : Option Addr) (pn : List (Addr × Obj)), Zc cls d oe → (∃ vs, oe.data = .fields vs) → PSs (X.suite a ((a, oe) :: pn)) (b₀ :: suite) (k.ts a cls d)) (r : HdA X hds l) :
      HdA X (.ExceptHandler (some (.Name x np)) (some n) (b₀ :: suite) pos' :: hds) (k :: l)
section
variable {X : Cx} {body : List Stmt} {h₀ : ExceptHandler} {hds : List ExceptHandler} {l : List Clause} {pos : Pos} {tb : WX → TS} {Wout : WX}
end
end Ah

/-! isinstance of a caught error that has a dict; repr of data -/
namespace Ah
open PySem PySem.Spec PySem.W PySem.Calls PyProof.Rows L2 He
section
variable {prog : Program} {w : World} {A : Around} {E : Value → Shared → Prop} {s : Shared} {K : Frag} {x D : Addr} {ox od : Obj}
end
def rReprD (K : Frag) : List V → Hp → VK → Prop := fun xs H Q => ∃ (x : V) (d : PyData), xs = [x] ∧ Dp K H x d ∧ d.showable = true ∧ d.hasDict = false ∧ d.depth ≤ 64 ∧ d.shown.length ≤ sizeLine ∧ Q (.str d.shown) H
theorem call_reprD {X : Cx} (hg : X.A.guards = some []) (hu : X.A.units + 99 < cLine) : CallR X (.builtin "repr") (rReprD X.K) := by
  intro pins s σ H xs us Q I r h
  obtain ⟨x, d, rfl, hx, h1, h2, h3, h4, q⟩ := h
  obtain ⟨u, rfl, ru⟩ := r.one
  obtain ⟨as, rd⟩ := Dp.reads I d x u hx ru
  have fin : ∀ h' t tk, (∀ b o, s.heap.get? b = some o → h'.get? b = some o) → EP X pins σ Q (.str d.shown t) { s with heap := h', toks := tk } := fun h' t tk hk => ⟨.str d.shown, H, I.kept (t' := tk) hk, ⟨t, rfl⟩, q⟩
  have now : ∀ t tk, EP X pins σ Q (.str d.shown t) { s with toks := tk } := fun t tk => fin s.heap t tk fun _ _ z => z
  cases hx with
  | non => cases (show u = Value.none from ru); exact PySem.P.repr_of_none (now _ _)
  | bl b => cases (show u = Value.bool b from ru); exact PySem.P.repr_of_bool (now _ _)
  | int i =>
    obtain ⟨t, e⟩ := (show ∃ t, u = Value.int i t from ru)
    subst e
    exact PySem.P.repr_of_int (of_decide_eq_true h1) (now _ _)
  | str z =>
    obtain ⟨t, e⟩ := (show ∃ t, u = Value.str z t from ru)
    subst e
    exact PySem.P.repr_of_str (now _ _) h4
  | lst a b =>
    rename_i ad xs ds
    cases (show u = Value.ref ad from ru)
    exact repr_of_reads' rd h1 (fun z => by rw [h2] at z; cases z) hg (by omega) (fun _ _ z => z) fin h4
  | tup a b =>
    rename_i ad xs ds
    cases (show u = Value.ref ad from ru)
    exact repr_of_reads' rd h1 (fun z => by rw [h2] at z; cases z) hg (by omega) (fun _ _ z => z) fin h4
end Ah

/-! the claim's call with tables of code objects; lambdas handed to a def -/
namespace Ah
open PySem PySem.Spec PyProof.Rows L2 He LamX
abbrev Tbs (base : Heap) (mg : Str → Option Value) (cs : List (Addr × Addr)) : Prop := ∀ p ∈ cs, TabB base mg p.1 p.2
def LawOkT (P : Program) (w : World) (K : Frag) (mg : Str → Option Value) (cs : List (Addr × Addr)) (k : Nat) (fa : Addr) (sp : Sp) : Prop :=
  ∀ (base : Heap), Tbs base mg cs → ∀ (A : Around) (outer : List Env) (s : Shared) (H : Hp) (u : Value) (v : V) (Q : VK) (E : XK), Rm k A → Env0 P w K mg base A outer s H → RelV v u → sp [v] H Q E →
    codeAny (model P w) A (.call (.ref fa) ⟨[u], []⟩) (CR L2.CX0 outer P w H s Q E) s
theorem okLawT {P : Program} {w : World} {K : Frag} {mg : Str → Option Value} {cs : List (Addr × Addr)} {N : List Str} {x : Str} {k : Nat} {sp : Sp} {d : DefG} (S : Stands K d) (h0 : d.dfl = []) (sc : FnScope N [x] d.scope)
    (hb : ∀ (kV doc pm : Value) (an : Option Addr) (cdv ct : Value) (us : List Value), us.length = 1 → bindArgs (PySem.W.fnOf d.name d.qual d.params d.body d.scope .none kV doc pm an cdv ct) ⟨us, []⟩ = pure ([x].zip us))
    (hbody : ∀ base : Heap, Tbs base mg cs → BodyB L2.CX0 P w K mg base N d k sp) : LawOkT P w K mg cs (k + 1) (d.ad K) sp := by
  obtain ⟨fd, F⟩ := S
  have e : d.dvs K = [] := by unfold DefG.dvs; rw [h0]; rfl
  rw [e] at F
  have b := FunD.bindsA (ps := [x]) F hb
  exact fun base tb A outer s H u v Q E hr e0 r hsp => body_run F sc (hbody base tb) hr e0 (b s [u] rfl) rfl (.cons r .nil) hsp
section
variable {P : Program} {w : World} {K : Frag} {mg mb : Str → Option Value} {k : Nat} {fa a : Addr} {cs : List (Addr × Addr)} {sp : Sp} {s : Shared} {vs : List Value} {ns : List Int} {H : Hp}
structure Found (K : Frag) (mg mb : Str → Option Value) (cs : List (Addr × Addr)) (a : Addr) (vs : List Value) (s : Shared) : Prop where
  KX : K.In s.heap
  ns : s.heap.Ns mainGlobals mg
  bn : s.heap.Ns builtinsNs mb
  bb : ∀ x : Str, x ≠ "__name__" → mb x = bootBuiltins x
  lim : s.heap.NoLimit
  gen : s.gens = #[]
  tab : ∀ p ∈ cs, s.heap.get? p.2 = some { cls := .none, data := .fields #[] }
  out : ∀ p ∈ cs, K.lookup p.2 = none
  hd : ∀ p ∈ cs, PySem.W.CodeHd s.heap p.1 p.2
  bm : ∃ (bm : Addr) (ob : Obj), mg "__builtins__" = some (.ref bm) ∧ bm ≠ builtinsNs ∧ s.heap.get? bm = some ob ∧ ob.cls = .type "module" ∧ ob.dict = some builtinsNs ∧ ob.data = .plain
  at_ : s.heap.get? a = some { cls := .type "list", data := .seq vs.toArray }
structure Track (P : Program) (w : World) (K : Frag) (cs : List (Addr × Addr)) (a : Addr) (s : Shared) (H : Hp) : Prop where
  tb : ∀ p ∈ cs, H p.2 = some (.tbl #[])
  only : ∀ b, H b = none ∨ b ∈ cs.map (·.2) ∨ (b = a ∧ K.lookup a = none ∧ ∃ o xs, H b = some (.frz o (.lst xs)))
  ok : HOk P w H s.heap
theorem Found.isT (F : Found K mg mb cs a vs s) {b : Addr} (hb : b ∈ cs.map (·.2)) : s.heap.get? b = some { cls := .none, data := .fields #[] } := by
  obtain ⟨p, hp, e⟩ := List.mem_map.mp hb
  subst e
  exact F.tab p hp
theorem Found.off (F : Found K mg mb cs a vs s) (T : Track P w K cs a s H) {b : Addr} {o : Obj} (e : s.heap.get? b = some o) (h1 : ∀ l n, o.data ≠ .seq l n) (h2 : o.data ≠ .fields #[]) : H b = none := by
  rcases T.only b with z | z | ⟨z, _⟩
  · exact z
  · rw [F.isT z] at e
    cases e
    exact absurd rfl h2
  · subst z
    rw [F.at_] at e
    cases e
    exact absurd rfl (h1 _ _)
theorem Found.low (F : Found K mg mb cs a vs s) (T : Track P w K cs a s H) {b : Addr} {o : Obj} (e : s.heap.get? b = some o) (h1 : ∀ l n, o.data ≠ .seq l n) (h2 : o.data ≠ .fields #[]) : (hidT s.heap H).get? b = some o := hidT_get e (F.off T e h1 h2)
theorem Found.lowNs (F : Found K mg mb cs a vs s) (T : Track P w K cs a s H) {b : Addr} {m : Str → Option Value} (h : s.heap.Ns b m) : (hidT s.heap H).Ns b m := by
  obtain ⟨o, es, ep, e, d, r⟩ := h
  exact ⟨o, es, ep, F.low T e (fun l n z => by rw [d] at z; cases z) (fun z => by rw [d] at z; cases z), d, r⟩
theorem Found.env (F : Found K mg mb cs a vs s) (T : Track P w K cs a s H) : Env0 P w K mg (hidT s.heap H) callerA [] s H := by
  obtain ⟨mc, l1, l2⟩ := F.lim
  refine ⟨rfl, ⟨fun b o e => hidT_get (F.KX b o e) ?_, F.lowNs T F.ns, ⟨mb, F.lowNs T F.bn, F.bb⟩, ⟨mc, F.lowNs T l1, l2⟩⟩, fun b o e => of_hidT e, Nat.le_of_eq (hidT_size _ _), trivial, fun b hb => absurd (show b ∈ ([] : List Addr) from hb) List.not_mem_nil, T.ok, .of_eq F.gen⟩
  rcases T.only b with z | z | ⟨z, k, _⟩
  · exact z
  · obtain ⟨p, hp, ep⟩ := List.mem_map.mp z
    subst ep
    rw [F.out p hp] at e
    cases e
  · subst z
    rw [k] at e
    cases e
theorem Found.tabs (F : Found K mg mb cs a vs s) (T : Track P w K cs a s H) : Tbs (hidT s.heap H) mg cs := fun p hp => by
  have hTp := F.tab p hp
  refine ⟨?_, ?_, fun z => ?_⟩
  · obtain ⟨o, us, file, tf, flags, tg, inF, text, tt, e1, r1, r2, r3, r4, r5, r6, r7, r8, hne⟩ := F.hd p hp
    refine ⟨o, us, file, tf, flags, tg, inF, text, tt, F.low T e1 (fun l n z => ?_) (fun z => ?_), r1, r2, r3, r4, r5, r6, r7, r8, hne⟩
    · rw [r2] at z
      cases z
    · rw [r2] at z
      cases z
      simp at r3
  · obtain ⟨bm, ob, b1, b2, b3, b4, b5, b6⟩ := F.bm
    refine ⟨bm, ob, b1, b2, fun q => ?_, fun q => ?_, F.low T b3 (fun l n z => by rw [b6] at z; cases z) (fun z => by rw [b6] at z; cases z), b4, b5, b6⟩
    · obtain ⟨o, es, ep, e, hd, _⟩ := F.ns
      subst q
      rw [e] at b3
      cases b3
      rw [hd] at b6
      cases b6
    · subst q
      rw [hTp] at b3
      cases b3
      cases b6
  · obtain ⟨o, es, ep, e, hd, _⟩ := F.ns
    rw [z, hTp] at e
    cases e
    cases hd
theorem Found.run (F : Found K mg mb cs a vs s) (T : Track P w K cs a s H) (hr : Room k callerA) (L : LawOkT P w K mg cs k fa sp) (hsp : sp [.ref a] H (fun v _ => v = .bl true) fun _ _ _ => False) :
    codeAny (model P w) callerA (.call (.ref fa) ⟨[.ref a], []⟩) (fun r s' => r = .ok (.ret (.bool true)) ∧ OldK s.heap s'.heap ∧ s'.os = s.os ∧ AllBare s'.gens) s := by
  refine codeAny_mono (L _ (F.tabs T) callerA [] s H (.ref a) (.ref a) _ _ ⟨hr, rfl⟩ (F.env T) rfl hsp) fun r s' h => ?_
  match r, h with
  | .ok (.ret u), ⟨v, H', os, bare, un, hok', r', q⟩ =>
    cases (show v = .bl true from q)
    cases (show u = Value.bool true from r')
    have key : ∀ b o, b ∉ cs.map (·.2) → s.heap.get? b = some o → s'.heap.get? b = some o := fun b o nb e => by
      rcases T.only b with z | z | ⟨_, _, ob, xs, z⟩
      · exact un.keep b o e z (fun y => absurd (show b ∈ ([] : List Addr) from y) List.not_mem_nil) List.not_mem_nil
      · exact absurd z nb
      · have e1 := (T.ok b _ z).1
        rw [e] at e1
        cases e1
        exact (hok' b _ (un.frzs b _ _ z)).1
    have grown : ∀ p ∈ cs, ∃ more : Array Value, s'.heap.get? p.2 = some { cls := .none, data := .fields more } := fun p hp => by
      obtain ⟨more, z⟩ := un.tbls p.2 #[] (T.tb p hp)
      exact ⟨_, hok' p.2 _ z⟩
    refine ⟨rfl, ⟨fun b o e => ?_, fun b o e => ?_⟩, os, bare⟩
    · by_cases hb : b ∈ cs.map (·.2)
      · obtain ⟨p, hp, ep⟩ := List.mem_map.mp hb
        subst ep
        obtain ⟨more, hm⟩ := grown p hp
        rw [F.tab p hp] at e
        cases e
        exact .inr (.inl ⟨((F.hd p hp).tab (F.tab p hp)).isCodeTable, rfl, #[], more, rfl, by rw [Array.empty_append]; exact hm⟩)
      · exact .inl (key b o hb e)
    · by_cases hb : b ∈ cs.map (·.2)
      · obtain ⟨p, hp, ep⟩ := List.mem_map.mp hb
        subst ep
        obtain ⟨more, hm⟩ := grown p hp
        exact ⟨_, hm⟩
      · exact ⟨o, key b o hb e⟩
theorem Found.call (F : Found K mg mb cs a vs s) (hi : IntsAre vs ns) (hl : ns.length ≤ sizeLine) (hr : Room k callerA) (L : LawOkT P w K mg cs k fa sp)
    (hsp : ∀ H : Hp, (∀ p ∈ cs, H p.2 = some (.tbl #[])) → SqL K H a (ns.map V.int) → sp [.ref a] H (fun v _ => v = .bl true) fun _ _ _ => False) :
    codeAny (model P w) callerA (.call (.ref fa) ⟨[.ref a], []⟩) (fun r s' => r = .ok (.ret (.bool true)) ∧ OldK s.heap s'.heap ∧ s'.os = s.os ∧ AllBare s'.gens) s := by
  have rv := vals_ints hi
  have lenV := hi.length
  have aT : a ∉ cs.map (·.2) := fun z => by
    have q := F.isT z
    rw [F.at_] at q
    have z' : Data.seq vs.toArray _ = Data.fields #[] := congrArg Obj.data (Option.some.inj q)
    cases z'
  have mem : ∀ p ∈ cs, p.2 ∈ cs.map (·.2) := fun p hp => List.mem_map.mpr ⟨p, hp, rfl⟩
  cases hk : K.lookup a with
  | some o =>
    have e := F.KX a o hk
    rw [F.at_] at e
    cases e
    let H : Hp := fun b => if b ∈ cs.map (·.2) then some (.tbl #[]) else none
    have T : Track P w K cs a s H := ⟨fun p hp => if_pos (mem p hp), fun b => by
        by_cases hb : b ∈ cs.map (·.2)
        · exact .inr (.inl hb)
        · exact .inl (if_neg hb), fun b u z => by
        by_cases hb : b ∈ cs.map (·.2)
        · cases ((if_pos hb).symm.trans z : some (HO.tbl #[]) = some u)
          exact F.isT hb
        · cases ((if_neg hb).symm.trans z : none = some u)⟩
    exact F.run T hr L (hsp H T.tb (.inr ⟨_, vs.toArray, _, hk, rfl, rfl, rfl, by rw [List.size_toArray, lenV]; exact hl, by simpa using rv⟩))
  | none =>
    let H : Hp := fun b => if b = a then some (.frz { cls := .type "list", data := .seq vs.toArray } (.lst (ns.map V.int))) else if b ∈ cs.map (·.2) then some (.tbl #[]) else none
    have at_ : H a = some (.frz { cls := .type "list", data := .seq vs.toArray } (.lst (ns.map V.int))) := if_pos rfl
    have tb : ∀ b, b ∈ cs.map (·.2) → H b = some (.tbl #[]) := fun b hb => (if_neg (show ¬ b = a from fun z => aT (z ▸ hb))).trans (if_pos hb)
    have off : ∀ b, b ≠ a → b ∉ cs.map (·.2) → H b = none := fun b h1 h2 => (if_neg h1).trans (if_neg h2)
    have T : Track P w K cs a s H := ⟨fun p hp => tb _ (mem p hp), fun b => by
        by_cases hb : b = a
        · subst hb
          exact .inr (.inr ⟨rfl, hk, _, _, at_⟩)
        · by_cases h2 : b ∈ cs.map (·.2)
          · exact .inr (.inl h2)
          · exact .inl (off b hb h2), fun b u z => by
        by_cases hb : b = a
        · subst hb
          rw [at_] at z
          cases z
          exact ⟨F.at_, by rw [List.length_map]; exact hl, vs, _, rv, F.at_⟩
        · by_cases h2 : b ∈ cs.map (·.2)
          · rw [tb b h2] at z
            cases z
            exact F.isT h2
          · rw [off b hb h2] at z
            cases z⟩
    exact F.run T hr L (hsp H T.tb (.inl (.inr ⟨_, at_⟩)))
end
theorem law_walkT {l : PySem.W.OpenLaw} {n k : Nat} {q : Program} {loose : List Str} {XP : (Str → Option Value) → Heap → Prop} {YP : World → Heap → Prop} {d : DefRec}
    (hn : l.most = some n) (hn2 : n ≤ sizeLine) (hdf : d.params.defaults = []) (hr : Room k callerA)
    (F : ∀ (w : World) (mg : Str → Option Value) (fa : Addr) (h : Heap), YP w h → h.Ns mainGlobals mg → mg d.name = some (.ref fa) →
      ∃ (K : Frag) (cs : List (Addr × Addr)) (sp : Sp), K.In h ∧ (∀ p ∈ cs, h.get? p.2 = some { cls := .none, data := .fields #[] }) ∧ (∀ p ∈ cs, K.lookup p.2 = none) ∧ (∀ p ∈ cs, PySem.W.CodeHd h p.1 p.2) ∧
        (∀ (H : Hp) (a : Addr) (ns : List Int), ns.length ≤ n → (∀ z ∈ ns, Builtin.Int.intBits z ≤ 1048576) → (∀ p ∈ cs, H p.2 = some (.tbl #[])) → SqL K H a (ns.map V.int) → sp [.ref a] H (fun v _ => v = .bl true) fun _ _ _ => False) ∧ LawOkT l.prog w K mg cs k fa sp) :
    PySem.W.WalkO q loose XP YP l.row.toRowW d [] (fun f vs => PySem.call f vs) := by
  refine Att.attach_callB hn hdf fun w s₀ s₁ mg mb fa o pm cd doc a vs ns G Y ho hd hcd hmg hobj hints hlen hbits hg => ?_
  obtain ⟨K, cs, sp, KX, h1, h2, h3, hsp, hF⟩ := F w mg fa _ Y G.T.g hmg
  exact Found.call ⟨KX, G.T.g, G.T.b, G.T.builtins, G.T.nolimit, hg, h1, h2, h3, G.T.bmain, hobj⟩ hints (Nat.le_trans hlen hn2) hr hF fun H hH hS => hsp H a ns hlen hbits hH hS
end Ah

/-! x(lambda: body), x a def of the text that calls what it got -/
namespace Ah
open PySem PySem.Spec PyProof.Rows L2 He LamX
section
variable {X : Cx} {pins : List (Addr × Obj)} {σ : L2.St} {H HZ : Hp} {s s1 : Shared}
end
section
variable {X : Cx}
end
end Ah

/-! points: pairs of a number and a text, and their order -/
namespace Ah
open PySem PySem.Spec PyProof.Rows L2 He
abbrev Pt : Type := Int × Str
def ptD (p : Pt) : PyData := .tuple [.int p.1, .str p.2]
def PtAt (H : Hp) (a : Addr) (p : Pt) : Prop := H a = some (.tup [.int p.1, .str p.2])
theorem PtAt.same {H H' : Hp} {a : Addr} {p : Pt} (h : PtAt H a p) (s : Same H H') : PtAt H' a p := s _ _ h
theorem PtAt.dp {K : Frag} {H : Hp} {a : Addr} {p : Pt} (h : PtAt H a p) : Dp K H (.ref a) (ptD p) := .tup (SqT.of h) (.cons (.int _) (.cons (.str _) .nil))
section
variable {X : Cx} {k : Nat}
end
/-! is_point -/
def textOk (l : List Nat) : Bool := if l.getLast? = some 33 then isKeyL l.dropLast else isKeyL l
def ptK (ku kt : Kn) : Bool := ku.within 0 4294967296 && (match kt with
  | .str z => z.cps.toList.isEmpty || ((match ku with | .int i => !decide (i = 4294967296) | _ => true) && textOk z.cps.toList)
  | _ => false)
inductive PtV (K : Frag) (H : Hp) : V → Bool → Prop
  | no {x : V} {k : Kn} (h : Is K H x k) (hk : k.isT "tuple" = false) : PtV K H x false
  | len {a : Addr} {l : List V} (e : H a = some (.tup l)) (hl : l.length ≠ 2) (hm : l.length ≤ 1000) : PtV K H (.ref a) false
  | two {a : Addr} {u t : V} {ku kt : Kn} (e : H a = some (.tup [u, t])) (hu : Is K H u ku) (ht : Is K H t kt) (hs : kt.small) : PtV K H (.ref a) (ptK ku kt)
theorem PtV.same {K : Frag} {H H' : Hp} {x : V} {b : Bool} (h : PtV K H x b) (s : Same H H') : PtV K H' x b := by
  cases h with
  | no h hk => exact .no (h.same s) hk
  | len e hl hm => exact .len (s _ _ e) hl hm
  | two e hu ht hs => exact .two (s _ _ e) (hu.same s) (ht.same s) hs
def Out1 (K : Frag) (E : XK) (H : Hp) (C f : Str) (v : V) : Prop := ∀ (H' : Hp) (d : Addr), Same H H' → H' d = some (.xd [(f, v)]) → E (.ref (ga K C)) (some d) H'
def Out2 (K : Frag) (E : XK) (H : Hp) (C f g : Str) (v w : V) : Prop := ∀ (H' : Hp) (d : Addr), Same H H' → H' d = some (.xd [(g, w), (f, v)]) → E (.ref (ga K C)) (some d) H'
theorem Out1.same {K : Frag} {E : XK} {H H' : Hp} {C f : Str} {v : V} (o : Out1 K E H C f v) (s : Same H H') : Out1 K E H' C f v := fun H2 d s2 h => o H2 d (s.trans s2) h
theorem Out2.same {K : Frag} {E : XK} {H H' : Hp} {C f g : Str} {v w : V} (o : Out2 K E H C f g v w) (s : Same H H') : Out2 K E H' C f g v w := fun H2 d s2 h => o H2 d (s.trans s2) h
theorem Out1.mk {K : Frag} {E : XK} {H : Hp} {C f : Str} {v : V} (o : Out1 K E H C f v) {ta : TA} {σ : L2.St} (ha : ∀ Q' : List V → Hp → Prop, Q' [v] H → ta σ H Q') : tMkO (ga K C) (spX1 (ga K C) f) [] ta σ H fun cls d H' => E cls d H' := by
  refine ha _ ⟨by simp, mkX1 fun d hd => o _ d (Same.upd (Same.refl _) hd) upd_same⟩
theorem Out2.mk {K : Frag} {E : XK} {H : Hp} {C f g : Str} {v w : V} (o : Out2 K E H C f g v w) {ta : TA} {σ : L2.St} (ha : ∀ Q' : List V → Hp → Prop, Q' [v, w] H → ta σ H Q') : tMkO (ga K C) (spX2 (ga K C) f g) [] ta σ H fun cls d H' => E cls d H' := by
  refine ha _ ⟨by simp, mkX2 fun d hd => o _ d (Same.upd (Same.refl _) hd) upd_same⟩
/-! arcs -/
def ArcAt (K : Frag) (H : Hp) (x : Addr) (p q : Pt) : Prop := ∃ dx a b : Addr, H x = some (.ins (ga K "Arc") dx [("own_start", .ref a), ("own_end", .ref b)]) ∧ PtAt H a p ∧ PtAt H b q
theorem ArcAt.same {K : Frag} {H H' : Hp} {x : Addr} {p q : Pt} (h : ArcAt K H x p q) (s : Same H H') : ArcAt K H' x p q := by
  obtain ⟨dx, a, b, h1, h2, h3⟩ := h
  exact ⟨dx, a, b, s _ _ h1, s _ _ h2, s _ _ h3⟩
end Ah

/-! a method with a starred parameter: its rest is a new tuple -/
namespace Ah
open PySem PySem.Spec PyProof.Rows L2 He
def tupO (rs : List Value) : Obj := { cls := .type "tuple", data := .seq rs.toArray }
abbrev pushT (s : Shared) (rs : List Value) : Shared := { s with heap := s.heap.push (tupO rs) }
structure FnV (P : Program) (w : World) (K : Frag) (mg : Str → Option Value) (base : Heap) (k : Nat) (f : Addr) (n : Nat) (sp : Sp) : Prop where
  run : ∀ (A : Around) (outer : List Env) (s : Shared) (H : Hp) (us rs : List Value) (vs : List V) (Q : VK) (E : XK) (R : Result → Shared → Prop), Rm k A → Env0 P w K mg base A outer (pushT s rs) H → us.length = n → Vals vs us → K.In s.heap → rs.length ≤ sizeLine →
    sp (vs ++ [.ref s.heap.objs.size]) H Q E → (∀ r s', CR (L2.CX P w) outer P w H (pushT s rs) Q E r s' → R r s') → codeAny (model P w) A (.call (.ref f) ⟨us ++ rs, []⟩) R s
  kp : PySem.W.keepIn K (.ref f) = true
section
variable {P : Program} {w : World} {K : Frag} {mg : Str → Option Value} {base : Heap}
end
section
variable {X : Cx} {k j : Nat} {f C : Addr} {sp : Sp} {E : XK} {x m : Str} {e o : Expr} {es : List Expr} {t : TA} {ta : TE} {p pos apos : Pos}
end
end Ah

/-! the state of a law's turn: what was there is kept, the pool is a pool, the tables are tables -/
namespace Ah
open PySem PySem.Spec PyProof.Rows L2 He LamX
theorem seq_gen {A B : TS} {D : Ends} {σ : L2.St} {H : Hp} (P : L2.St → Hp → Prop) (h : ∀ N : L2.St → Hp → Prop, (∀ σ' H', P σ' H' → N σ' H') → A { D with nx := N } σ H) (hB : ∀ σ' H', P σ' H' → B D σ' H') : tSeq A B D σ H := h (B D) hB
def Nx (pl : Addr) (H H' : Hp) : Prop := ∀ b o, b ≠ pl → H b = some o → (∀ ps, o ≠ .tbl ps) → H' b = some o
theorem Nx.refl {pl : Addr} {H : Hp} : Nx pl H H := fun _ _ _ h _ => h
theorem Nx.trans {pl : Addr} {H H1 H2 : Hp} (a : Nx pl H H1) (b : Nx pl H1 H2) : Nx pl H H2 := fun c o n h t => b c o n (a c o n h t) t
theorem Nx.same {pl : Addr} {H H' : Hp} (s : Same H H') : Nx pl H H' := fun b o _ h _ => s b o h
theorem Nx.ex {pl : Addr} {H H' : Hp} (s : Ex pl H H') : Nx pl H H' := fun b o n h _ => s b o n h
theorem Nx.ext {pl : Addr} {H H' : Hp} (s : ExtN H H') : Nx pl H H' := fun b o _ h t => s b o h t
theorem Nx.new {pl p : Addr} {H H' : Hp} {o : HO} (s : Nx pl H H') (h : H' p = none) : Nx pl H (upd H' p o) := s.trans (.same (Same.upd (Same.refl _) h))
structure Bs (T : List (Addr × Str)) (H0 : Hp) (pl : Addr) (H : Hp) : Prop where
  ext : ExtN H0 H
  pool : PoolAt H pl
  tabs : Tabs T H
  new : H0 pl = none ∨ ∃ ps, H0 pl = some (.tbl ps)
section
variable {T : List (Addr × Str)} {H0 H H' : Hp} {pl r : Addr}
theorem Bs.same (b : Bs T H0 pl H) (s : Same H H') : Bs T H0 pl H' := ⟨b.ext.trans (.of s), b.pool.same s, b.tabs.ext s, b.new⟩
theorem Bs.upd {p : Addr} {o : HO} (b : Bs T H0 pl H) (h : H p = none) : Bs T H0 pl (upd H p o) := b.same (Same.upd (Same.refl _) h)
theorem Bs.ex (b : Bs T H0 pl H) (x : Ex pl H H') (hp : PoolAt H' pl) : Bs T H0 pl H' := by
  obtain ⟨p, q, h⟩ := b.pool
  refine ⟨fun c o hc ht => x c o (fun z => ?_) (b.ext c o hc ht), hp, fun t ht => ?_, b.new⟩
  · rw [z] at hc
    rcases b.new with n | ⟨ps, n⟩
    · rw [n] at hc
      cases hc
    · rw [n] at hc
      cases hc
      exact ht ps rfl
  · obtain ⟨ps, h1, h2, h3⟩ := b.tabs t ht
    refine ⟨ps, x _ _ (fun z => ?_) h1, h2, fun pos cv hc => ?_⟩
    · rw [z, h] at h1
      cases h1
    · obtain ⟨c, e1, e2⟩ := h3 pos cv hc
      refine ⟨c, e1, x _ _ (fun z => ?_) e2⟩
      rw [z, h] at e2
      unfold CodeO at e2
      cases e2
theorem Bs.ne (b : Bs T H0 pl H) (h : H r = none) : r ≠ pl := b.pool.ne h
theorem PtAt.nx {p : Pt} (h : PtAt H r p) (b : PoolAt H pl) (x : Nx pl H H') : PtAt H' r p := by
  obtain ⟨i, j, e⟩ := b
  exact x _ _ (ne_of h e (fun z => by cases z)) h (fun ps z => by cases z)
theorem ArcAt.nx {K : Frag} {p q : Pt} (h : ArcAt K H r p q) (b : PoolAt H pl) (x : Nx pl H H') : ArcAt K H' r p q := by
  obtain ⟨dx, a, c, h1, h2, h3⟩ := h
  have bb := b
  obtain ⟨i, j, e⟩ := b
  exact ⟨dx, a, c, x _ _ (ne_of h1 e (fun z => by cases z)) h1 (fun ps z => by cases z), h2.nx bb x, h3.nx bb x⟩
end
theorem seqN {K : Frag} {H H' : Hp} {a : Addr} {xs : List V} (h : SqL K H a xs) (e : ExtN H H') : SqL K H' a xs := by
  rcases h with (h | ⟨o, h⟩) | h
  · exact .inl (.inl (e _ _ h fun ps z => by cases z))
  · exact .inl (.inr ⟨o, e _ _ h fun ps z => by cases z⟩)
  · exact .inr h
theorem sameOf {H H' : Hp} {p : Addr} {o : HO} (n : H p = none) (h : upd H p o = H') : Same H H' := by
  subst h
  exact Same.upd (Same.refl _) n
theorem atOf {H H' : Hp} {p : Addr} {o : HO} (h : upd H p o = H') : H' p = some o := by
  subst h
  exact upd_same
theorem Nx.at {pl p : Addr} {H H' : Hp} {o : HO} (x : Nx pl H H') (h : H p = some o) (n : p ≠ pl) (t : ∀ ps, o ≠ .tbl ps := by intro ps z; cases z) : H' p = some o := x p o n h t
theorem madeOf {H H' : Hp} {x dx : Addr} {o o' : HO} (nx : H x = none) (ndx : H dx = none) (ne : dx ≠ x) (h : upd (upd H dx o) x o' = H') : Same H H' := by
  subst h
  exact Same.upd (Same.upd (Same.refl _) ndx) (by rw [upd_ne ne.symm]; exact nx)
end Ah

/-! repr(v) is z -/
namespace Ah
open PySem PySem.Spec PySem.W PySem.Calls PyProof.Rows L2 He
inductive Rp (K : Frag) (H : Hp) : V → Str → Prop
  | data {v : V} (d : PyData) (h : Dp K H v d) (h1 : d.showable = true) (h2 : d.hasDict = false) (h3 : d.depth ≤ 64) (h4 : d.shown.length ≤ sizeLine) : Rp K H v d.shown
  | edict {a : Addr} (h : H a = some (.dK [])) : Rp K H (.ref a) "{}"
def rReprV (K : Frag) : List V → Hp → VK → Prop := fun xs H Q => ∃ (x : V) (z : Str), xs = [x] ∧ Rp K H x z ∧ Q (.str z) H
theorem call_reprV {X : Cx} (hg : X.A.guards = some []) (hu : X.A.units + 99 < cLine) : CallR X (.builtin "repr") (rReprV X.K) := by
  intro pins s σ H xs us Q I r h
  obtain ⟨x, z, rfl, hx, q⟩ := h
  cases hx with
  | data d h h1 h2 h3 h4 => exact call_reprD hg hu pins s σ H _ us Q I r ⟨x, d, rfl, h, h1, h2, h3, h4, q⟩
  | @edict a h =>
    obtain ⟨u, rfl, ru⟩ := r.one
    cases (show u = Value.ref a from ru)
    obtain ⟨_, hsys, vs, kv, o, es, ep, ho, hx, hd, _, hp, _⟩ := I.hok a _ h
    have ev : vs = [] := by cases kv; rfl
    subst ev
    have ee : es = #[] := by
      have z : es.toList = [] := List.eq_nil_of_length_eq_zero hp.length
      exact Array.toList_eq_nil_iff.mp z
    subst ee
    have rd : Reads s.heap (.ref a) (.dict []) ([a] ++ []) := Reads.dict ho hx.1 hd .nil .nil
    have hs : (PyData.dict []).shown = ("{}" : Str) := by decide +kernel
    refine repr_of_reads' rd rfl (fun _ hm => ?_) hg (by show X.A.units + (1 + 1) < cLine; omega) (fun _ _ z => z) (fun h' t tk hk => ?_) (by rw [hs]; decide +kernel)
    · have : sysModules = a := by simpa using hm
      rw [this] at hsys
      simp at hsys
    · rw [hs]
      exact ⟨.str "{}", H, I.kept (t' := tk) hk, ⟨t, rfl⟩, q⟩
end Ah

/-! operators of own instances -/
namespace Ah
open PySem PySem.Spec PySem.W PySem.Calls PyProof.Rows L2 He
def Kn.least : Kn → Int → Bool
  | .int i, m => decide (m ≤ i)
  | _, _ => false
def Kn.isInt : Kn → Bool
  | .int _ => true
  | _ => false
theorem isInt_eq (k : Kn) : (k.isT "int" && !k.isT "bool") = k.isInt := by cases k <;> rfl
section
variable {X : Cx} {k j : Nat} {f C : Addr} {sp : Sp} {E : XK}
def rLenO (C : Addr) (sp : Sp) (E : XK) : List V → Hp → VK → Prop := fun xs H Q => ∃ a dx fs, xs = [.ref a] ∧ H a = some (.ins C dx fs) ∧ sp [.ref a] H (fun z H' => ∃ n : Nat, z = .int n ∧ n < 2 ^ 62 ∧ Q (.int n) H') E
theorem call_lenO (hm : Meth X.K C "__len__" f) (G : FnB X.prog X.w X.K X.mg X.base k f sp) (hr : Rm j X.A) (hx : Passes (L2.CX X.prog X.w) X E) (hk : k + 1 ≤ j := by decide) : CallR X (.builtin "len") (rLenO C sp E) := by
  intro pins s σ H xs us Q I r h
  obtain ⟨a, dx, fs, rfl, ha, q⟩ := h
  obtain ⟨u, rfl, ru⟩ := r.one
  cases (show u = Value.ref a from ru)
  obtain ⟨mA, O, _⟩ := ins_get I.hok ha
  obtain ⟨od, J, _⟩ := O.look
  obtain ⟨m, Fr⟩ := I.fr
  have hr1 : Rm (k + 1) X.A := hr.mono hk
  refine len_K Fr I.mod.kin J hm.at_ hm.fn (wpAny_mono (wpAny_call (runB (us := [.ref a]) (vs := [.ref a]) G hr1.in1 I.env0.in1 hx I (.cons rfl .nil) q)) (fun w s' z => ?_) fun _ _ x => x)
  obtain ⟨z', H', I', rz, n, en, hn, qz⟩ := z
  subst en
  obtain ⟨t, e⟩ := (show ∃ t, w = Value.int n t from rz)
  subst e
  exact ⟨⟨by omega, by omega⟩, .int n, H', I'.tok _, ⟨_, rfl⟩, qz⟩
end
end Ah

/-! change logs: rows, and how they lie -/
namespace Ah
open PySem PySem.Spec PyProof.Rows L2 He
abbrev LRow : Type := Int × Str × Option Int × Option Int
def oV : Option Int → V
  | none => .non
  | some i => .int i
def oD : Option Int → PyData
  | none => .none
  | some i => .int i
def rowV (r : LRow) : List V := [.int r.1, .str r.2.1, oV r.2.2.1, oV r.2.2.2]
inductive RowsAt (H : Hp) : List Addr → List LRow → Prop
  | nil : RowsAt H [] []
  | cons {a : Addr} {r : LRow} {as : List Addr} {rs : List LRow} (h : H a = some (.tup (rowV r))) (t : RowsAt H as rs) : RowsAt H (a :: as) (r :: rs)
def Tk (H H' : Hp) : Prop := ∀ b xs, H b = some (.tup xs) → H' b = some (.tup xs)
theorem Tk.refl {H : Hp} : Tk H H := fun _ _ h => h
theorem Tk.trans {H H1 H2 : Hp} (a : Tk H H1) (b : Tk H1 H2) : Tk H H2 := fun c xs h => b c xs (a c xs h)
theorem Tk.same {H H' : Hp} (s : Same H H') : Tk H H' := fun b xs h => s b _ h
theorem Tk.ext {H H' : Hp} (s : LamX.ExtN H H') : Tk H H' := fun b xs h => s b _ h (fun ps z => by cases z)
theorem Tk.upd {H : Hp} {p : Addr} {o o' : HO} (h : H p = some o) (n : ∀ xs, o ≠ .tup xs) : Tk H (upd H p o') := fun b xs hb => by
  by_cases e : b = p
  · subst e
    rw [h] at hb
    exact absurd (Option.some.inj hb) (n xs)
  · rw [upd_ne e]
    exact hb
section
variable {H H' : Hp} {as bs : List Addr} {rs ss : List LRow}
theorem RowsAt.tk (h : RowsAt H as rs) (t : Tk H H') : RowsAt H' as rs := by
  induction h with
  | nil => exact .nil
  | cons h _ ih => exact .cons (t _ _ h) ih
theorem RowsAt.len (h : RowsAt H as rs) : as.length = rs.length := by
  induction h with
  | nil => rfl
  | cons _ _ ih => simp [ih]
theorem RowsAt.drop (h : RowsAt H as rs) (n : Nat) : RowsAt H (as.drop n) (rs.drop n) := by
  induction h generalizing n with
  | nil => simpa using RowsAt.nil
  | cons h t ih =>
    cases n with
    | zero => exact .cons h t
    | succ n => exact ih n
theorem RowsAt.at (h : RowsAt H as rs) {i : Nat} {a : Addr} (e : as[i]? = some a) : ∃ r, rs[i]? = some r ∧ H a = some (.tup (rowV r)) := by
  induction h generalizing i with
  | nil => simp at e
  | cons h t ih =>
    cases i with
    | zero =>
      simp at e
      subst e
      exact ⟨_, rfl, h⟩
    | succ i => exact ih (by simpa using e)
end
def RowsOk (rs : List LRow) : Prop := ∀ r ∈ rs, PyData.strOk r.2.1 = true
def Ex2 (x y : Addr) (H H' : Hp) : Prop := ∀ b o, b ≠ x → b ≠ y → H b = some o → H' b = some o
theorem Ex2.refl {x y : Addr} {H : Hp} : Ex2 x y H H := fun _ _ _ _ h => h
theorem Ex2.trans {x y : Addr} {H H1 H2 : Hp} (a : Ex2 x y H H1) (b : Ex2 x y H1 H2) : Ex2 x y H H2 := fun c o n m h => b c o n m (a c o n m h)
theorem Ex2.same {x y : Addr} {H H' : Hp} (s : Same H H') : Ex2 x y H H' := fun b o _ _ h => s b o h
structure LogAt (K : Frag) (H : Hp) (x L : Addr) (b f : Int) (as : List Addr) (rs : List LRow) : Prop where
  ins : ∃ dx, H x = some (.ins (ga K "ChangeLog") dx [("own_bound", .int b), ("own_floor", .int f), ("own_changes", .ref L)])
  lst : H L = some (.lst (as.map V.ref))
  rows : RowsAt H as rs
  ok : RowsOk rs
  few : rs.length ≤ 100000
section
variable {K : Frag} {H H' : Hp} {x L : Addr} {b f : Int} {as : List Addr} {rs : List LRow}
theorem LogAt.same (h : LogAt K H x L b f as rs) (s : Same H H') : LogAt K H' x L b f as rs := by
  obtain ⟨⟨dx, h1⟩, h2, h3, h4, h5⟩ := h
  exact ⟨⟨dx, s _ _ h1⟩, s _ _ h2, h3.tk (.same s), h4, h5⟩
theorem LogAt.ne (h : LogAt K H x L b f as rs) : x ≠ L := by
  obtain ⟨⟨dx, h1⟩, h2, _, _, _⟩ := h
  exact ne_of h1 h2 (fun z => by cases z)
end
theorem isList {K : Frag} {H : Hp} {L : Addr} {xs : List V} (h : H L = some (.lst xs)) : tyV K "list" (.ref L) H := .inl ⟨rfl, xs, SqL.of h⟩
end Ah

/-! states: a pool, tables, odd values -/
namespace Ah
open PySem PySem.Spec PyProof.Rows L2 He LamX
section
variable {T : List (Addr × Str)} {K : Frag} {H0 H H' : Hp} {pl r : Addr}
theorem tabs_keep (t : Tabs T H) (h : ∀ b o, H b = some o → ((∃ ps, o = .tbl ps) ∨ ∃ q, o = CodeO b q) → H' b = some o) : Tabs T H' := by
  intro p hp
  obtain ⟨ps, h1, h2, h3⟩ := t p hp
  refine ⟨ps, h _ _ h1 (.inl ⟨ps, rfl⟩), h2, fun pos cv hc => ?_⟩
  obtain ⟨c, e1, e2⟩ := h3 pos cv hc
  exact ⟨c, e1, h _ _ e2 (.inr ⟨_, rfl⟩)⟩
theorem tabs_ex {a : Addr} {o : HO} (t : Tabs T H) (x : Ex a H H') (ha : H a = some o) (n1 : ∀ ps, o ≠ .tbl ps) (n2 : ∀ q, o ≠ CodeO a q) : Tabs T H' :=
  tabs_keep t fun b o' hb hk => x b o' (fun z => by
    subst z
    rw [ha] at hb
    cases hb
    rcases hk with ⟨ps, e⟩ | ⟨q, e⟩
    · exact n1 ps e
    · exact n2 q e) hb
structure Sb (T : List (Addr × Str)) (pl : Addr) (H0 H : Hp) : Prop where
  nx : Nx pl H0 H
  pool : PoolAt H pl
  tabs : Tabs T H
theorem Sb.same (b : Sb T pl H0 H) (s : Same H H') : Sb T pl H0 H' := ⟨b.nx.trans (.same s), b.pool.same s, b.tabs.ext s⟩
theorem Sb.ex (b : Sb T pl H0 H) (x : Ex pl H H') (hp : PoolAt H' pl) : Sb T pl H0 H' := by
  obtain ⟨p, q, h⟩ := b.pool
  exact ⟨b.nx.trans (.ex x), hp, tabs_ex b.tabs x h (fun ps z => by cases z) (fun q z => by unfold CodeO at z; cases z)⟩
theorem Sb.ne (b : Sb T pl H0 H) (h : H r = none) : r ≠ pl := b.pool.ne h
theorem LogAt.nx {x L : Addr} {b f : Int} {as : List Addr} {rs : List LRow} (h : LogAt K H x L b f as rs) (p : PoolAt H pl) (n : L ≠ pl) (y : Nx pl H H') : LogAt K H' x L b f as rs := by
  obtain ⟨i, j, e⟩ := p
  obtain ⟨⟨dx, h1⟩, h2, h3, h4, h5⟩ := h
  refine ⟨⟨dx, y _ _ (ne_of h1 e (fun z => by cases z)) h1 (fun ps z => by cases z)⟩, y _ _ n h2 (fun ps z => by cases z), ?_, h4, h5⟩
  exact h3.tk fun c xs hc => y _ _ (ne_of hc e (fun z => by cases z)) hc (fun ps z => by cases z)
theorem LogAt.ext {x L : Addr} {b f : Int} {as : List Addr} {rs : List LRow} (h : LogAt K H x L b f as rs) (y : ExtN H H') : LogAt K H' x L b f as rs := by
  obtain ⟨⟨dx, h1⟩, h2, h3, h4, h5⟩ := h
  exact ⟨⟨dx, y _ _ h1 (fun ps z => by cases z)⟩, y _ _ h2 (fun ps z => by cases z), h3.tk (.ext y), h4, h5⟩
structure OdV (K : Frag) (pl : Addr) (H : Hp) (v : V) (k : Kn) (z : Str) : Prop where
  box : ∀ H', Nx pl H H' → Is K H' v k ∧ Rp K H' v z
  ok : PyData.strOk z = true
theorem OdV.nx {v : V} {k : Kn} {z : Str} (h : OdV K pl H v k z) (x : Nx pl H H') : OdV K pl H' v k z := ⟨fun H2 y => h.box H2 (x.trans y), h.ok⟩
def PyData.plain (d : PyData) : Bool := d.showable && !d.hasDict && decide (d.depth ≤ 64) && decide (d.shown.length ≤ 1000) && PyData.strOk d.shown
theorem plain_rp {v : V} {d : PyData} (h : PyData.plain d = true) (hd : Dp K H v d) : Rp K H v d.shown := by
  unfold PyData.plain at h
  simp only [Bool.and_eq_true, decide_eq_true_eq, Bool.not_eq_true'] at h
  obtain ⟨⟨⟨⟨h1, h2⟩, h3⟩, h4⟩, h5⟩ := h
  exact .data d hd h1 h2 h3 (by rw [sizeLine_eq]; omega)
theorem plain_ok {d : PyData} (h : PyData.plain d = true) : PyData.strOk d.shown = true := by
  unfold PyData.plain at h
  simp only [Bool.and_eq_true, decide_eq_true_eq, Bool.not_eq_true'] at h
  exact h.2
theorem OdV.of {v : V} {k : Kn} (d : PyData) (h : PyData.plain d = true) (b : ∀ H', Nx pl H H' → Is K H' v k ∧ Dp K H' v d) : OdV K pl H v k d.shown := ⟨fun H' y => ⟨(b H' y).1, plain_rp h (b H' y).2⟩, plain_ok h⟩
end
end Ah

/-! own __getitem__, __setitem__, __contains__; dict(d) -/
namespace Ah
open PySem PySem.Spec PySem.W PySem.Calls PyProof.Rows L2 He
section
variable {X : Cx} {k j : Nat} {f C : Addr} {sp : Sp} {E : XK} {a b : Expr} {ta tb : TE} {pos : Pos}
end
end Ah

/-! sorted of points -/
namespace Ah
open PySem PySem.Spec PySem.Calls PyProof.Rows L2 He SrtO
def IsPtO (h : Heap) (v : Value) (p : Pt) : Prop := ∃ a o t u n, v = .ref a ∧ h.get? a = some o ∧ o.cls = .type "tuple" ∧ o.data = .seq #[.int p.1 t, .str p.2 u] n
theorem IsPtO.keeps {h h' : Heap} {v : Value} {p : Pt} (x : IsPtO h v p) (k : ∀ b o, h.get? b = some o → o.cls = .type "tuple" → h'.get? b = some o) : IsPtO h' v p := by
  obtain ⟨a, o, t, u, n, e, ho, hc, hd⟩ := x
  exact ⟨a, o, t, u, n, e, k _ _ ho hc, hc, hd⟩
section
variable {prog : Program} {w : World} {A : Around} {E : Value → Shared → Prop} {s : Shared}
end
inductive PtsAt (H : Hp) : List Addr → List Pt → Prop
  | nil : PtsAt H [] []
  | cons {a : Addr} {p : Pt} {as : List Addr} {ps : List Pt} (h : PtAt H a p) (t : PtsAt H as ps) : PtsAt H (a :: as) (p :: ps)
theorem PtsAt.tk {H H' : Hp} {as : List Addr} {ps : List Pt} (h : PtsAt H as ps) (t : Tk H H') : PtsAt H' as ps := by
  induction h with
  | nil => exact .nil
  | cons h _ ih => exact .cons (t _ _ h) ih
theorem PtsAt.len {H : Hp} {as : List Addr} {ps : List Pt} (h : PtsAt H as ps) : as.length = ps.length := by
  induction h with
  | nil => rfl
  | cons _ _ ih => simp [ih]
theorem PtsAt.at {H : Hp} {as : List Addr} {ps : List Pt} (h : PtsAt H as ps) {i : Nat} {a : Addr} (e : as[i]? = some a) : ∃ p, ps[i]? = some p ∧ PtAt H a p := by
  induction h generalizing i with
  | nil => simp at e
  | cons h t ih =>
    cases i with
    | zero =>
      simp at e
      subst e
      exact ⟨_, rfl, h⟩
    | succ i => exact ih (by simpa using e)
noncomputable def ptOf (H : Hp) (a : Addr) : Pt := match H a with
  | some (.tup [.int i, .str z]) => (i, z)
  | _ => (0, Str.empty)
theorem ptOf_at {H : Hp} {a : Addr} {p : Pt} (h : PtAt H a p) : ptOf H a = p := by
  unfold ptOf
  rw [show H a = some (.tup [.int p.1, .str p.2]) from h]
theorem PtsAt.map {H : Hp} {as : List Addr} {ps : List Pt} (h : PtsAt H as ps) : as.map (ptOf H) = ps := by
  induction h with
  | nil => rfl
  | cons h _ ih => rw [List.map_cons, ih, ptOf_at h]
section
variable {X : Cx}
end
end Ah

/-! max and min of two points -/
namespace Ah
open PySem PySem.Spec PySem.Calls PyProof.Rows L2 He

section
variable {X : Cx}
end
end Ah

/-! rows of a dict of texts and ints, in the order of points -/
namespace Ah
open PySem PySem.Spec PySem.Calls PyProof.Rows L2 He
inductive RowsP (H : Hp) : List Addr → List (Str × Int) → Prop
  | nil : RowsP H [] []
  | cons {a : Addr} {r : Str × Int} {as : List Addr} {rs : List (Str × Int)} (h : H a = some (.tup [.str r.1, .int r.2])) (t : RowsP H as rs) : RowsP H (a :: as) (r :: rs)
section
variable {H H' : Hp} {as bs : List Addr} {rs ss : List (Str × Int)}
theorem RowsP.tk (h : RowsP H as rs) (t : Tk H H') : RowsP H' as rs := by
  induction h with
  | nil => exact .nil
  | cons h _ ih => exact .cons (t _ _ h) ih
theorem RowsP.len (h : RowsP H as rs) : as.length = rs.length := by
  induction h with
  | nil => rfl
  | cons _ _ ih => simp [ih]
theorem RowsP.take (h : RowsP H as rs) (n : Nat) : RowsP H (as.take n) (rs.take n) := by
  induction h generalizing n with
  | nil => simpa using RowsP.nil
  | cons h t ih =>
    cases n with
    | zero => simpa using RowsP.nil
    | succ n => exact .cons h (ih n)
end
section
variable {X : Cx} {k j : Nat} {f C : Addr} {sp : Sp} {E : XK} {e : Expr} {te : TE} {pos : Pos}
def tFmtRO (C : Addr) (sp : Sp) (E : XK) (te : TE) : TE := fun σ H Q => te σ H fun x H1 => ∃ a dx fs, x = .ref a ∧ H1 a = some (.ins C dx fs) ∧ sp [x] H1 (fun z H' => ∃ y, z = .str y ∧ y.length ≤ sizeLine ∧ Q (.str y) H') E
theorem pe_fmtRO (hm : Meth X.K C "__repr__" f) (G : FnB X.prog X.w X.K X.mg X.base k f sp) (hr : Rm j X.A) (hx : Passes (L2.CX X.prog X.w) X E) (he : PE X e te) (hk : k ≤ j := by decide) : PE X (.FormattedValue e 114 none pos) (tFmtRO C sp E te) := by
  refine ⟨fun pins s σ H Q I h => ?_⟩
  refine wpAny_FormattedValue_repr (thn (he.run pins s σ H _ I h) fun v s1 hv => ?_)
  obtain ⟨x, H1, I1, r1, a, dx, fs, rfl, ha, q⟩ := hv
  cases (show v = Value.ref a from r1)
  obtain ⟨mA, O, _⟩ := ins_get I1.hok ha
  obtain ⟨od, J, _⟩ := O.look
  unfold pyReprObj
  refine wpAny_bind (wpAny_cRoomFor (hu0 hr) ?_)
  refine wpAny_bind (wpAny_bind (J.type.here ((PySem.W.looks_findIn I1.kIn hm.at_).here ?_)))
  refine wpAny_bind (m := callSpecialIfBound? (.ref a) (Str.ofString "__repr__")) (PySem.W.ifBound_K I1.kIn J hm.at_ hm.fn (wpAny_mono (wpAny_call (runB (us := [.ref a]) (vs := [.ref a]) G (hr.mono hk) I1.env0 hx I1 (.cons rfl .nil) q)) (fun w s' z => ?_) fun _ _ x => x))
  obtain ⟨z', H', I', rz, y, ey, hy, qz⟩ := z
  subst ey
  obtain ⟨t, e⟩ := (show ∃ t, w = Value.str y t from rz)
  subst e
  refine wpAny_bind (wpAny_isInstance (T := "str") (b := true) rfl isSubtype_str_str ?_)
  exact wpAny_pure (wpAny_formatField_str ⟨.str y, H', I'.tok _, ⟨_, rfl⟩, qz⟩ ⟨.str y, H', I'.tok _, ⟨_, rfl⟩, qz⟩ hy)
end
end Ah

/-! a def that is called in any state of handling; repr of a list of one own instance -/
namespace Ah
open PySem PySem.Spec PySem.Calls PyProof.Rows L2 He
open L2H (RoomH)
open Builtin Builtin.List
structure FnN (P : Program) (w : World) (K : Frag) (mg : Str → Option Value) (base : Heap) (k : Nat) (f : Addr) (sp : Sp) : Prop where
  run : ∀ (A : Around) (outer : List Env) (s : Shared) (H : Hp) (us : List Value) (vs : List V) (Q : VK) (E : XK), RoomH k A → Env0 P w K mg base A outer s H → Vals vs us → sp vs H Q E →
    codeAny (model P w) A (.call (.ref f) ⟨us, []⟩) (CR (L2.CX P w) outer P w H s Q E) s
section
variable {X : Cx} {k : Nat} {f C : Addr} {sp : Sp}
end
end Ah

/-! dict comprehensions with tuple keys -/
namespace L2
open PySem PySem.Spec PyProof.Rows
section
variable {X : Cx}
end
end L2

/-! sorted(d), d a dict whose keys are points; own &; {x!r} of data -/
namespace Ah
open PySem PySem.Spec PySem.Calls PyProof.Rows L2 He SrtO
def ptKey (p : Pt) : List Key := [Sum.inl p.1, Sum.inr p.2]
section
variable {X : Cx}
end
end Ah

/-! own &, {x!r} of data, tuple in list, == of lists of own instances, a method with a starred parameter and no arguments -/
namespace Ah
open PySem PySem.Spec PySem.W PySem.Calls PyProof.Rows L2 He
section
variable {X : Cx} {k j : Nat} {f C : Addr} {sp : Sp} {E : XK}
end
end Ah

/-! == of two lists whose items are equal by their own __eq__ -/
namespace PySem.SeqAt
open AutoSeq1 (wpAny_loadPart')
open MeetsSeq MeetsSeq2 MeetsSeq3 SeqRoads2
section
variable {prog : Program} {w : World}
end
end PySem.SeqAt
namespace Ah
open PySem PySem.Spec PySem.W PySem.Calls PyProof.Rows L2 He
section
variable {X : Cx} {k j : Nat} {f C : Addr} {sp : Sp} {E : XK}
end
section
variable {X : Cx} {k j : Nat} {f C : Addr} {sp : Sp} {E : XK} {x m : Str} {o : Expr} {ta : TE} {p pos apos : Pos}
end
theorem lc_none {K : Frag} {tl te : TE} {tt : TT} {σ : L2.St} {i : Nat} {H : Hp} {L : Addr} {xs : List V} {Q : VK} (hL : H L = some (.lst xs))
    (hl : ∀ Q', Q' (.ref L) H → tl σ H Q')
    (ht : ∀ x G Q', x ∈ xs → Same H G → (∀ G', Same G G' → Q' false G') → tt ((wipe σ [i]).set i (some x)) G Q')
    (hw : ∀ x, wipe ((wipe σ [i]).set i (some x)) [i] = wipe σ [i])
    (q : ∀ H' D, Same H H' → H D = none → H' D = some (.lst []) → Q (.ref D) H') : tLc (iList K tl) (gName i) tt te [i] σ H Q := by
  refine hl _ ⟨L, rfl, ⟨_, SqL.of hL⟩, fun D hD => ?_⟩
  refine lc_it (walk_list (xs := xs)) (fun j H2 => H2 D = some (.lst []) ∧ Same H H2) ?_ (fun j H2 _ h => SqL.of (h.2 _ _ hL)) ?_ ?_
  · exact ⟨upd_same, Same.upd (Same.refl _) hD⟩
  · rintro j y H2 H3 hj ⟨hb, s⟩ ⟨rfl, hy⟩
    refine ⟨hw _, ht y H3 _ (List.mem_of_getElem? hy) s fun G' sG => ?_⟩
    rw [if_neg (by decide)]
    exact ⟨sG _ _ hb, s.trans sG⟩
  · rintro H2 ⟨hb, s⟩
    exact q H2 D s hD hb
section
variable {X : Cx} {k j : Nat} {f C : Addr} {sp : Sp} {E : XK}
end
end Ah
namespace L2
open PySem PySem.Spec PyProof.Rows
section
variable {X : Cx}
end
end L2

/-! dict comprehensions with two clauses, keys tuples -/
namespace L2
open PySem PySem.Spec PyProof.Rows
section
variable {prog : Program} {w : World} {A : Around} {R : Result → Shared → Prop} {s : Shared} {kx vx t0 i0 t1 i1 : Expr} {ifs0 ifs1 : List Expr} {scope : Scope} {pos : Pos} {it acc : Value} {env : Env}
end

section
variable {X : Cx}
end
end L2

/-! lists of the same things compared; counting comprehensions; dicts of points -/
namespace Ah
open PySem PySem.Spec PyProof.Rows L2 He
section
variable {X : Cx} {j : Nat}
end
theorem putK_keys {κ : Type} [DecidableEq κ] (kvs : List (κ × V)) (k : κ) (v : V) : (putK kvs k v).map (·.1) = if k ∈ kvs.map (·.1) then kvs.map (·.1) else kvs.map (·.1) ++ [k] := by
  by_cases h : k ∈ kvs.map (·.1)
  · rw [if_pos h]
    obtain ⟨p, hp, rfl⟩ := List.mem_map.mp h
    have ha : kvs.any (fun x => x.1 = p.1) = true := List.any_eq_true.mpr ⟨p, hp, by simp⟩
    unfold putK
    simp only [ha, if_true]
    rw [List.map_map]
    apply List.map_congr_left
    intro x hx
    simp only [Function.comp_apply]
    split
    · rename_i e2
      simp_all
    · rfl
  · rw [if_neg h]
    have ha : kvs.any (fun x => x.1 = k) = false := by
      rw [Bool.eq_false_iff]
      intro z
      obtain ⟨x, hx, e⟩ := List.any_eq_true.mp z
      exact h (List.mem_map.mpr ⟨x, hx, by simpa using e⟩)
    unfold putK
    simp [ha]
theorem ptKey_inj {p q : Pt} (h : ptKey p = ptKey q) : p = q := by
  obtain ⟨n, z⟩ := p
  obtain ⟨m, y⟩ := q
  simp only [ptKey, List.cons.injEq, Sum.inl.injEq, Sum.inr.injEq, and_true] at h
  rw [h.1, h.2]
theorem ptKey_mem {p : Pt} {us : List Pt} : ptKey p ∈ us.map ptKey ↔ p ∈ us := by
  constructor
  · intro h
    obtain ⟨q, hq, e⟩ := List.mem_map.mp h
    rw [← ptKey_inj e]
    exact hq
  · exact fun h => List.mem_map.mpr ⟨p, h, rfl⟩
def Dk (D : Addr) (H : Hp) (put : List Pt) (H2 : Hp) : Prop := ∃ (kvs : List (List Key × V)) (us : List Pt), H2 D = some (.dT kvs) ∧ kvs.map (·.1) = us.map ptKey ∧ us.Nodup ∧ (∀ p, p ∈ us ↔ p ∈ put) ∧ us.length ≤ put.length ∧ Same H H2
theorem Dk.nil {D : Addr} {H : Hp} (hD : H D = none) : Dk D H [] (upd H D (.dT [])) := ⟨[], [], upd_same, rfl, List.nodup_nil, fun p => Iff.rfl, Nat.le_refl _, Same.upd (Same.refl _) hD⟩
theorem Dk.same {D : Addr} {H H2 H3 : Hp} {put : List Pt} (h : Dk D H put H2) (s : Same H2 H3) : Dk D H put H3 := by
  obtain ⟨kvs, us, h1, h2, h3, h4, h5, h6⟩ := h
  exact ⟨kvs, us, s _ _ h1, h2, h3, h4, h5, h6.trans s⟩
theorem Dk.put {D : Addr} {H H2 : Hp} {put : List Pt} {a : Addr} {p : Pt} {v : V} (h : Dk D H put H2) (hD : H D = none) (few : put.length ≤ 100000) (ha : PtAt H2 a p) :
    ∃ kvs k bq, V.ref a = .ref bq ∧ H2 bq = some (.tup (List.map kV k)) ∧ H2 D = some (.dT kvs) ∧ kvs.length < sizeLine ∧ Dk D H (put ++ [p]) (upd H2 D (.dT (putK kvs k v))) := by
  obtain ⟨kvs, us, h1, hks, hnd, hm, hlen, s⟩ := h
  have hl : kvs.length = us.length := by
    have z := congrArg List.length hks
    simpa using z
  refine ⟨kvs, ptKey p, a, rfl, ha, h1, by rw [sizeLine_eq]; omega, ?_⟩
  have sm : Same H (upd H2 D (.dT (putK kvs (ptKey p) v))) := fun b o hbo => by
    rw [upd_ne (ne_of_none hbo hD)]
    exact s _ _ hbo
  by_cases hpu : p ∈ us
  · refine ⟨_, us, upd_same, ?_, hnd, fun r => ?_, by rw [List.length_append]; simp; omega, sm⟩
    · rw [putK_keys, hks, if_pos (ptKey_mem.mpr hpu)]
    · rw [hm r, List.mem_append, List.mem_singleton]
      constructor
      · exact .inl
      · rintro (h | rfl)
        · exact h
        · exact (hm r).mp hpu
  · refine ⟨_, us ++ [p], upd_same, ?_, ?_, fun r => ?_, by simp only [List.length_append, List.length_singleton]; omega, sm⟩
    · rw [putK_keys, hks, if_neg (fun h => hpu (ptKey_mem.mp h)), List.map_append]
      rfl
    · rw [List.nodup_append]
      refine ⟨hnd, by simp, fun x hx y hy => ?_⟩
      rw [List.mem_singleton] at hy
      subst hy
      exact fun e => hpu (e ▸ hx)
    · rw [List.mem_append, List.mem_append, hm r]
end Ah

/-! errors held as values -/
namespace PySem.HandSPX
open PySem PySem.W PySem.Calls PyProof.Rows
section
variable {M : Model} {prog : Program} {w : World} {A : Around} {E : Value → Shared → Prop} {R : Result → Shared → Prop} {h : Heap} {g : Array GenState} {d : Drawn} {t : Nat} {os : OsState}
variable {nm q : Str} {C N : Addr} {bs bm bmB : List Value} {hdct : Bool} {sn : List Str} {sub : List Value} {ab : Bool} {col : Option Bool} {dd : Option Addr} {k0 k1 k2 k3 k5 : Option Value} {B newId initId : String}
end
end PySem.HandSPX
namespace Ah
open PySem PySem.Spec PyProof.Rows L2 He
def EvAt (H : Hp) (a C : Addr) (fs : List (Str × V)) : Prop := ∃ dx, H a = some (exo a C (some dx)) ∧ H dx = some (exd dx fs)
theorem EvAt.same {H H' : Hp} {a C : Addr} {fs : List (Str × V)} (h : EvAt H a C fs) (s : Same H H') : EvAt H' a C fs := by
  obtain ⟨dx, h1, h2⟩ := h
  exact ⟨dx, s _ _ h1, s _ _ h2⟩
structure FnUk (P : Program) (w : World) (K : Frag) (mg : Str → Option Value) (base : Heap) (k : Nat) (f : Addr) (ks : List Str) (sw : Bool) (sp : Sp) : Prop where
  ex : ∃ fd ps, FnOk P w K mg base (L2.CX P w) k f fd ps sp ∧ ∀ s (u : Value) (us : List Value), us.length = ks.length → BindsTo s fd ⟨[u], ks.zip us⟩ (ps.zip (u :: (if sw then us.reverse else us)))
section
variable {X : Cx} {C : Str} {e : Expr} {es : List Expr} {ta : TA} {sp : Sp} {k j : Nat} {p pos : Pos} {kws : List Keyword} {ks : List Str} {sw : Bool}
end
inductive Dq (K : Frag) (H : Hp) : V → PyData → Prop
  | dp {v : V} {d : PyData} (h : Dp K H v d) (hd : d.hasDict = false) : Dq K H v d
  | ed {a : Addr} (h : H a = some (.dK [])) : Dq K H (.ref a) (.dict [])
inductive DqAll (K : Frag) (H : Hp) : List V → List PyData → Prop
  | nil : DqAll K H [] []
  | cons {v : V} {d : PyData} {vs : List V} {ds : List PyData} (h : Dq K H v d) (t : DqAll K H vs ds) : DqAll K H (v :: vs) (d :: ds)
section
open PySem.W PySem.Calls
variable {X : Cx} {pins : List (Addr × Obj)} {σ : L2.St} {H : Hp} {s : Shared}
end
section
variable {K : Frag} {C : Addr} {f g : Str} {v w : V} {H : Hp} {Q : VK} {ta : TA} {σ : L2.St}
end
end Ah

/-! sorted(xs, key=lambda x: ..), the keys points -/
namespace Ah
open PySem PySem.Spec PySem.Calls PyProof.Rows L2 He LamX
/-! ### the keys' loop, told by Inv -/
section
variable {X : Cx} {pins : List (Addr × Obj)} {σ : L2.St} {H : Hp} {s : Shared}
open PySem.W in
open PySem.W in
open PySem.W in
open PySem.W in
end
section
variable {X : Cx}
end
end Ah

/-! a head over many classes: what the module's names reach is taken step by step, once; further looks at the state behind the top, each by a run of its own -/
namespace Ah
open PySem PySem.Spec PyProof.Rows L2 He HandSHeadRun
def frL {α : Type} : List Nat → (List Nat → α) → α
  | [], k => k []
  | a :: r, k => frNat a fun a => frL r fun r => k (a :: r)
theorem frL_eq {α : Type} : ∀ (l : List Nat) (k : List Nat → α), frL l k = k l
  | [], _ => rfl
  | a :: r, k => by
    show (frNat a fun a => frL r fun r => k (a :: r)) = _
    rw [frNat_eq, frL_eq]
def frF {α : Type} : Frag → (Frag → α) → α
  | [], k => k []
  | (a, ⟨c, d, t, l⟩) :: r, k => frNat a fun a => frF r fun r => k ((a, ⟨c, d, t, l⟩) :: r)
theorem frF_eq {α : Type} : ∀ (l : Frag) (k : Frag → α), frF l k = k l
  | [], _ => rfl
  | (a, ⟨c, d, t, l⟩) :: r, k => by
    show (frNat a fun a => frF r fun r => k ((a, ⟨c, d, t, l⟩) :: r)) = _
    rw [frNat_eq, frF_eq]
def nsV (g : Addr → Option Obj) (a : Addr) : List Addr := match g a with
  | some ⟨_, _, .dict es _, _⟩ => es.toList.flatMap fun e => refV e.val
  | _ => []
def stV (g : Addr → Option Obj) (a : Addr) : List Addr := match g a with
  | some ⟨_, _, .cls cd, _⟩ => [cd.ns]
  | some ⟨_, _, .func fd, _⟩ => refV fd.code ++ (refV fd.defaults ++ refV fd.kwdefaults)
  | _ => []
def fdV (g : Addr → Option Obj) (a : Addr) : List Addr := match g a with
  | some ⟨.type "property", _, .fields vs, _⟩ => vs.toList.flatMap refV
  | some ⟨_, _, .func fd, _⟩ => refV fd.code ++ (refV fd.defaults ++ (refV fd.kwdefaults ++ fd.closure.map (·.2)))
  | _ => []
def asS {α : Type} (g : Addr → Option Obj) (k : List Addr → α) : α :=
  frL (nsV g mainGlobals) fun l1 => frL (l1.flatMap (stV g)) fun l2 => frL (l2.flatMap (nsV g)) fun l3 => frL (l3.flatMap (fdV g)) fun l4 => frL (l4.flatMap (stV g)) fun l5 => k (mainGlobals :: (l1 ++ (l2 ++ (l3 ++ (l4 ++ (l5 ++ [cStatics]))))))
def lsS (g : Addr → Option Obj) : List Addr := asS g fun l => l
theorem asS_eq {α : Type} (g : Addr → Option Obj) (k : List Addr → α) : asS g k = k (lsS g) := by
  unfold lsS asS
  simp only [frL_eq]
abbrev fgS (g : Addr → Option Obj) : Frag := frT g (lsS g)
def obsSS (fa : List Fa) (ex : Frag → Bool) (fn : List DefG) (tf : List (Frag → Addr)) (g : Addr → Option Obj) : AlT := (obsG fa ex fn (fgS g), tabB g tf (fgS g))
def obsSF (fa : List Fa) (ex : Frag → Bool) (fn : List DefG) (tf : List (Frag → Addr)) (g : Addr → Option Obj) : AlT := asS g fun l => frF (frT g l) fun K => (obsG fa ex fn K, tabB g tf K)
theorem obsSF_eq (fa : List Fa) (ex : Frag → Bool) (fn : List DefG) (tf : List (Frag → Addr)) (g : Addr → Option Obj) : obsSF fa ex fn tf g = obsSS fa ex fn tf g := by
  unfold obsSF
  rw [asS_eq, frF_eq]
  rfl
theorem tabS_of {tf : List (Frag → Addr)} {as : List Addr} {h : Heap} (e : tabB h.get? tf (frT h.get? as) = true) : TabF tf h (frT h.get? as) := by
  have key : ∀ f ∈ tf, _ := fun f hf => ba (List.all_eq_true.mp e f hf)
  have tab : ∀ f ∈ tf, ∃ o, h.get? (cTA (frT h.get? as) f).2 = some o ∧ emptyTab o = true := fun f hf => by
    have z := (ba (key f hf).2).2
    cases q : h.get? (cTA (frT h.get? as) f).2 with
    | none =>
      rw [q] at z
      cases z
    | some o =>
      rw [q] at z
      exact ⟨o, rfl, z⟩
  exact ⟨fun f hf => of_decide_eq_true (key f hf).1, fun f hf => (ba (key f hf).2).1, fun f hf => by
    obtain ⟨o, q, z⟩ := tab f hf
    exact frT_none q z, fun f hf => by
    obtain ⟨o, q, z⟩ := tab f hf
    rw [q, emptyTab_eq z]⟩
def hookS (fa : List Fa) (ex : Frag → Bool) (fn : List DefG) (tf : List (Frag → Addr)) : PySem.W.Hook where
  α := AlT
  obs := fun s => obsSS fa ex fn tf s.heap.get?
  val := fun _ => (valG fn, true)
  says := fun _ h => ∃ K : Frag, K.In h ∧ SaysG fa ex fn K ∧ TabF tf h K
  of := fun _ _ e => ⟨_, frT_in, congrArg (fun z : AlT => z.1) e, tabS_of (congrArg (fun z : AlT => z.2) e)⟩
  keeps := fun _ _ _ ⟨K, hK, c, t⟩ k => ⟨K, PySem.W.Frag.In.keeps hK k, c, ⟨t.code, t.hd, t.out, fun f hf => k _ _ (t.empty f hf)⟩⟩
theorem obsSS_eq {fa : List Fa} {ex : Frag → Bool} {fn : List DefG} {tf : List (Frag → Addr)} {g : Addr → Option Obj} {s : Shared} (h : ∀ a, g a = s.heap.get? a) : obsSS fa ex fn tf g = (hookS fa ex fn tf).obs s := by
  have e : g = s.heap.get? := funext h
  rw [e] <;> rfl
theorem obsSF_ok {fa : List Fa} {ex : Frag → Bool} {fn : List DefG} {tf : List (Frag → Addr)} (s : PySem.W.SharedT) : obsSF fa ex fn tf (getT s) = (hookS fa ex fn tf).obs s.abs := by
  rw [obsSF_eq]
  exact obsSS_eq (getT_eq s)
def LookEq (r : PySem.W.OpenRow) (ex : Frag → Bool) (M : Nat) (w : World) : Prop :=
  ∀ os : OsState, (endF (stepQ (denQ tabQ) r.prog w) M r.prog w os).map (fun s => asS (getT s) fun l => frF (frT (getT s) l) fun K => ex K) = some true
theorem LookEq.and {r : PySem.W.OpenRow} {e1 e2 : Frag → Bool} {M : Nat} {w : World} (h1 : LookEq r e1 M w) (h2 : LookEq r e2 M w) : LookEq r (fun K => e1 K && e2 K) M w := by
  intro os
  have a := h1 os
  have b := h2 os
  obtain ⟨s, es, ea⟩ := Option.map_eq_some_iff.mp a
  rw [es] at b ⊢
  have b0 : (asS (getT s) fun l => frF (frT (getT s) l) fun K => e2 K) = true := Option.some.inj b
  rw [asS_eq, frF_eq] at ea b0
  refine congrArg some ?_
  show (asS (getT s) fun l => frF (frT (getT s) l) fun K => e1 K && e2 K) = true
  rw [asS_eq, frF_eq]
  show (e1 _ && e2 _) = true
  have ea' : e1 (frT (getT s) (lsS (getT s))) = true := ea
  have eb' : e2 (frT (getT s) (lsS (getT s))) = true := b0
  rw [ea', eb']
  rfl
def LookV (r : PySem.W.OpenRow) (fn : List DefG) (M : Nat) (w : World) : Prop :=
  ∀ os : OsState, (endF (stepQ (denQ tabQ) r.prog w) M r.prog w os).map (fun s => asS (getT s) fun l => frF (frT (getT s) l) fun K => fn.map fun d => fnG K (d.ad K)) = some (fn.map DefG.val)
theorem run_of {r : PySem.W.OpenRow} {q : Program} {fa : List Fa} {ex : Frag → Bool} {fn : List DefG} {tf : List (Frag → Addr)} {M : Nat} {loose : List Str} {w : World}
    (h1 : RunEq r q (hookS [] (fun _ => true) [] tf) (fun s => obsSF [] (fun _ => true) [] tf (getT s)) M loose w) (h2 : LookEq r (fun K => (fa.all fun f => f.ok K) && (ex K && fn.all fun d => d.ok K)) M w) (h3 : LookV r fn M w) :
    RunEq r q (hookS fa ex fn tf) (fun s => obsSF fa ex fn tf (getT s)) M loose w := by
  intro os
  have a := h1 os
  have b := h2 os
  have c := h3 os
  obtain ⟨s, es, ea⟩ := Option.map_eq_some_iff.mp a
  rw [es] at b c ⊢
  have b0 : (asS (getT s) fun l => frF (frT (getT s) l) fun K => (fa.all fun f => f.ok K) && (ex K && fn.all fun d => d.ok K)) = true := Option.some.inj b
  have c0 : (asS (getT s) fun l => frF (frT (getT s) l) fun K => fn.map fun d => fnG K (d.ad K)) = fn.map DefG.val := Option.some.inj c
  rw [asS_eq, frF_eq] at b0 c0
  have e1 := congrArg (fun z => z.1) ea
  have e2 := congrArg (fun z => z.2.1) ea
  have e3 := congrArg (fun z => z.2.2) ea
  refine congrArg some ?_
  refine Prod.ext e1 (Prod.ext e2 ?_)
  have e4 : obsSF [] (fun _ => true) [] tf (getT s) = (valG [], true) := e3
  show obsSF fa ex fn tf (getT s) = (valG fn, true)
  rw [obsSF_eq] at e4 ⊢
  have e6 : tabB (getT s) tf (fgS (getT s)) = true := congrArg (·.2) e4
  refine Prod.ext (Prod.ext ?_ c0) e6
  exact b0
end Ah

/-! d.update(e), list(range(n)), two readings of one operator, tuples of the very same things -/
namespace Ah
open PySem PySem.Spec PyProof.Rows L2 He
section
variable {X : Cx}
theorem OpR.or {f : Value → Value → Sem Value} {r1 r2 : R2} (h1 : OpR X f r1) (h2 : OpR X f r2) : OpR X f (fun x y H Q => r1 x y H Q ∨ r2 x y H Q) := by
  intro pins s σ H x y v u Q I rx ry h
  rcases h with h | h
  · exact h1 pins s σ H x y v u Q I rx ry h
  · exact h2 pins s σ H x y v u Q I rx ry h
end
end Ah

/-! tuple(list), the object known; dict(tuple of pairs) -/
namespace Ah
open PySem PySem.Spec PyProof.Rows L2 He
def FzT (H : Hp) (a : Addr) (xs : List V) : Prop := ∃ o : Obj, o.cls = .type "tuple" ∧ o.dict = none ∧ H a = some (.frz o (.tup xs))
theorem FzT.same {H H' : Hp} {a : Addr} {xs : List V} (h : FzT H a xs) (s : Same H H') : FzT H' a xs := by
  obtain ⟨o, c, d, e⟩ := h
  exact ⟨o, c, d, s _ _ e⟩
section
variable {X : Cx}
end
end Ah

/-! the items of a dict, a name as the target: the tuple that went out before may still be there -/
namespace Ah
open PySem PySem.Spec PySem.W PyProof.Rows L2 He
section
variable {prog : Program} {w : World} {KT : Type} [DecidableEq KT] {knd : KeyKind prog w KT} {A : Around} {E : Value → Shared → Prop} {s : Shared}
end
section
variable {P : Program} {w : World} {K : Frag} {d : Addr} {o : Obj} {es : Array DictEntry} {ep : Nat} {x : Str} {p : Pos}
end
section
variable {X : Cx} {e : Expr} {td : TE} {apos cpos p : Pos} {x : Str}
end
def rNeNil : R2 := fun x y H Q => ∃ a b xs, x = .ref a ∧ y = .ref b ∧ H a = some (.lst xs) ∧ H b = some (.lst []) ∧ Q (.bl (!xs.isEmpty)) H
theorem op_neNil {X : Cx} (hu : X.A.units + 64 < cLine) : OpR X (compareOp .NotEq) rNeNil := by
  intro pins s σ H x y v u Q I rx ry h
  obtain ⟨a, b, xs, rfl, rfl, ha, hb, q⟩ := h
  cases (show v = Value.ref a from rx)
  cases (show u = Value.ref b from ry)
  obtain ⟨us, r1, p1, _⟩ := I.list (SqL.of (K := X.K) ha)
  obtain ⟨ws, r2, p2, _⟩ := I.list (SqL.of (K := X.K) hb)
  cases r2
  cases xs with
  | nil =>
    cases r1
    exact SeqAt.RcNeAt.lists (A := X.A) (e := fun _ => true) p1.isList p2.isList rfl (by omega) (fun j h1 _ => by simp at h1) X.prog X.w _ _ ⟨.bl false, H, I, rfl, q⟩
  | cons x xs =>
    cases r1 with
    | cons r rr => exact SeqAt.RcNeAt.lists_lengths (A := X.A) p1.isList p2.isList (by simp) (by omega) X.prog X.w _ _ ⟨.bl true, H, I, rfl, q⟩
end Ah

/-! C(e, .., k=v) with keyword-only parameters; try with a tuple of classes; values of a dict -/
namespace Ah
open PySem PySem.Spec PyProof.Rows L2 He
structure FnKw (P : Program) (w : World) (K : Frag) (mg : Str → Option Value) (base : Heap) (k : Nat) (f : Addr) (n : Nat) (ks : List Str) (sp : Sp) : Prop where
  run : ∀ (A : Around) (outer : List Env) (s : Shared) (H : Hp) (us ws : List Value) (vs zs : List V) (Q : VK) (E : XK), Rm k A → Env0 P w K mg base A outer s H → Vals vs us → Vals zs ws → vs.length = n → zs.length = ks.length → sp (vs ++ zs) H Q E →
    codeAny (model P w) A (.call (.ref f) ⟨us, ks.zip ws⟩) (CR (L2.CX P w) outer P w H s Q E) s
  kp : PySem.W.keepIn K (.ref f) = true
section
variable {X : Cx} {k j n : Nat} {f C : Addr} {sp : Sp} {E : XK} {x : Str} {e : Expr} {es : List Expr} {kws : List Keyword} {ks : List Str} {t tk : TA} {p pos : Pos}
end
/-! ### try with clauses of one class or of three -/
structure ClauseT where
  cs : List Value
  i : Nat
  ts : Addr → Value → Option Addr → TS
inductive HdT (X : Cx) : List ExceptHandler → List ClauseT → Prop
  | nil : HdT X [] []
  | cons {x n : Str} {c : Value} {i : Nat} {ts : Addr → Value → Option Addr → TS} {b₀ : Stmt} {suite : List Stmt} {np pos' : Pos} {hds : List ExceptHandler} {l : List ClauseT} (hc : Names X x c) (hi : X.N[i]? = some n) (hln : X.env.kindOf n = some .local)
      (hsu : ∀ (a : Addr) (oe : Obj) (cls : Value) (d : Option Addr) (pn : List (Addr × Obj)), Zc cls d oe → (∃ vs, oe.data = .fields vs) → PSs (X.suite a ((a, oe) :: pn)) (b₀ :: suite) (ts a cls d)) (r : HdT X hds l) :
      HdT X (.ExceptHandler (some (.Name x np)) (some n) (b₀ :: suite) pos' :: hds) (⟨[c], i, ts⟩ :: l)
  | cons3 {x1 x2 x3 n : Str} {c1 c2 c3 : Value} {i : Nat} {ts : Addr → Value → Option Addr → TS} {b₀ : Stmt} {suite : List Stmt} {np1 np2 np3 tpos pos' : Pos} {kk : Nat} {hds : List ExceptHandler} {l : List ClauseT} (hc1 : Names X x1 c1) (hc2 : Names X x2 c2) (hc3 : Names X x3 c3) (hi : X.N[i]? = some n) (hln : X.env.kindOf n = some .local)
      (hsu : ∀ (a : Addr) (oe : Obj) (cls : Value) (d : Option Addr) (pn : List (Addr × Obj)), Zc cls d oe → (∃ vs, oe.data = .fields vs) → PSs (X.suite a ((a, oe) :: pn)) (b₀ :: suite) (ts a cls d)) (r : HdT X hds l) :
      HdT X (.ExceptHandler (some (.Tuple [.Name x1 np1, .Name x2 np2, .Name x3 np3] kk tpos)) (some n) (b₀ :: suite) pos' :: hds) (⟨[c1, c2, c3], i, ts⟩ :: l)
section
variable {X : Cx} {body : List Stmt} {h₀ : ExceptHandler} {hds : List ExceptHandler} {l : List ClauseT} {pos : Pos} {tb : WX → TS} {Wout : WX}
end
end Ah

/-! sorted(d.values(), key=lambda x: ..), the values references, the keys points -/
namespace Ah
open PySem PySem.Spec PySem.Calls PyProof.Rows L2 He LamX
section
variable {X : Cx} {pins : List (Addr × Obj)} {σ : L2.St} {H : Hp} {s : Shared}
open PySem.W in
end
section
variable {X : Cx}
end
theorem pe_or {X : Cx} {e : Expr} {t1 t2 : TE} (h1 : PE X e t1) (h2 : PE X e t2) : PE X e (fun σ H Q => t1 σ H Q ∨ t2 σ H Q) := ⟨fun pins s σ H Q I h => h.elim (h1.run pins s σ H Q I) (h2.run pins s σ H Q I)⟩
end Ah

/-! try with clauses of one to six classes -/
namespace Ah
section
open PySem PySem.Spec PySem.Calls PyProof.Rows PySem.W
end
open PySem PySem.Spec PyProof.Rows L2 He
inductive HdU (X : Cx) : List ExceptHandler → List ClauseT → Prop
  | nil : HdU X [] []
  | cons {x n : Str} {c : Value} {i : Nat} {ts : Addr → Value → Option Addr → TS} {b₀ : Stmt} {suite : List Stmt} {np pos' : Pos} {hds : List ExceptHandler} {l : List ClauseT} (hc : Names X x c) (hi : X.N[i]? = some n) (hln : X.env.kindOf n = some .local)
      (hsu : ∀ (a : Addr) (oe : Obj) (cls : Value) (d : Option Addr) (pn : List (Addr × Obj)), Zc cls d oe → (∃ vs, oe.data = .fields vs) → PSs (X.suite a ((a, oe) :: pn)) (b₀ :: suite) (ts a cls d)) (r : HdU X hds l) :
      HdU X (.ExceptHandler (some (.Name x np)) (some n) (b₀ :: suite) pos' :: hds) (⟨[c], i, ts⟩ :: l)
  | cons2 {x1 x2 n : Str} {c1 c2 : Value} {i : Nat} {ts : Addr → Value → Option Addr → TS} {b₀ : Stmt} {suite : List Stmt} {np1 np2 tpos pos' : Pos} {kk : Nat} {hds : List ExceptHandler} {l : List ClauseT} (hc1 : Names X x1 c1) (hc2 : Names X x2 c2) (hi : X.N[i]? = some n) (hln : X.env.kindOf n = some .local)
      (hsu : ∀ (a : Addr) (oe : Obj) (cls : Value) (d : Option Addr) (pn : List (Addr × Obj)), Zc cls d oe → (∃ vs, oe.data = .fields vs) → PSs (X.suite a ((a, oe) :: pn)) (b₀ :: suite) (ts a cls d)) (r : HdU X hds l) :
      HdU X (.ExceptHandler (some (.Tuple [.Name x1 np1, .Name x2 np2] kk tpos)) (some n) (b₀ :: suite) pos' :: hds) (⟨[c1, c2], i, ts⟩ :: l)
  | cons3 {x1 x2 x3 n : Str} {c1 c2 c3 : Value} {i : Nat} {ts : Addr → Value → Option Addr → TS} {b₀ : Stmt} {suite : List Stmt} {np1 np2 np3 tpos pos' : Pos} {kk : Nat} {hds : List ExceptHandler} {l : List ClauseT} (hc1 : Names X x1 c1) (hc2 : Names X x2 c2) (hc3 : Names X x3 c3) (hi : X.N[i]? = some n) (hln : X.env.kindOf n = some .local)
      (hsu : ∀ (a : Addr) (oe : Obj) (cls : Value) (d : Option Addr) (pn : List (Addr × Obj)), Zc cls d oe → (∃ vs, oe.data = .fields vs) → PSs (X.suite a ((a, oe) :: pn)) (b₀ :: suite) (ts a cls d)) (r : HdU X hds l) :
      HdU X (.ExceptHandler (some (.Tuple [.Name x1 np1, .Name x2 np2, .Name x3 np3] kk tpos)) (some n) (b₀ :: suite) pos' :: hds) (⟨[c1, c2, c3], i, ts⟩ :: l)
  | cons4 {x1 x2 x3 x4 n : Str} {c1 c2 c3 c4 : Value} {i : Nat} {ts : Addr → Value → Option Addr → TS} {b₀ : Stmt} {suite : List Stmt} {np1 np2 np3 np4 tpos pos' : Pos} {kk : Nat} {hds : List ExceptHandler} {l : List ClauseT} (hc1 : Names X x1 c1) (hc2 : Names X x2 c2) (hc3 : Names X x3 c3) (hc4 : Names X x4 c4) (hi : X.N[i]? = some n) (hln : X.env.kindOf n = some .local)
      (hsu : ∀ (a : Addr) (oe : Obj) (cls : Value) (d : Option Addr) (pn : List (Addr × Obj)), Zc cls d oe → (∃ vs, oe.data = .fields vs) → PSs (X.suite a ((a, oe) :: pn)) (b₀ :: suite) (ts a cls d)) (r : HdU X hds l) :
      HdU X (.ExceptHandler (some (.Tuple [.Name x1 np1, .Name x2 np2, .Name x3 np3, .Name x4 np4] kk tpos)) (some n) (b₀ :: suite) pos' :: hds) (⟨[c1, c2, c3, c4], i, ts⟩ :: l)
  | cons6 {x1 x2 x3 x4 x5 x6 n : Str} {c1 c2 c3 c4 c5 c6 : Value} {i : Nat} {ts : Addr → Value → Option Addr → TS} {b₀ : Stmt} {suite : List Stmt} {np1 np2 np3 np4 np5 np6 tpos pos' : Pos} {kk : Nat} {hds : List ExceptHandler} {l : List ClauseT} (hc1 : Names X x1 c1) (hc2 : Names X x2 c2) (hc3 : Names X x3 c3) (hc4 : Names X x4 c4) (hc5 : Names X x5 c5) (hc6 : Names X x6 c6) (hi : X.N[i]? = some n) (hln : X.env.kindOf n = some .local)
      (hsu : ∀ (a : Addr) (oe : Obj) (cls : Value) (d : Option Addr) (pn : List (Addr × Obj)), Zc cls d oe → (∃ vs, oe.data = .fields vs) → PSs (X.suite a ((a, oe) :: pn)) (b₀ :: suite) (ts a cls d)) (r : HdU X hds l) :
      HdU X (.ExceptHandler (some (.Tuple [.Name x1 np1, .Name x2 np2, .Name x3 np3, .Name x4 np4, .Name x5 np5, .Name x6 np6] kk tpos)) (some n) (b₀ :: suite) pos' :: hds) (⟨[c1, c2, c3, c4, c5, c6], i, ts⟩ :: l)
section
variable {X : Cx} {body : List Stmt} {h₀ : ExceptHandler} {hds : List ExceptHandler} {l : List ClauseT} {pos : Pos} {tb : WX → TS} {Wout : WX}
end
end Ah

/-! defs with keyword-only defaults, called by their positional values alone -/
namespace Ah
open PySem PySem.Spec PyProof.Rows L2 He
end Ah

/-! generator defs, and list(g) of them -/
namespace Ah
open PySem PySem.Spec PyProof.Rows L2 He
structure GnD (P : Program) (w : World) (K : Frag) (mg : Str → Option Value) (base : Heap) (k : Nat) (f : Addr) (zs : List V) (sp : SpG) : Prop where
  ex : ∃ fd ps ds, GFn P w K mg base k f fd ps sp ∧ Binds K fd ps ds ∧ Vals zs ds
  kp : PySem.W.keepIn K (.ref f) = true
section
variable {X : Cx} {k j : Nat} {f : Addr} {sp : SpG} {zs : List V} {x : Str} {p pos : Pos}
end
section
variable {X : Cx} {j k : Nat} {C : Str} {sp : Sp} {W : WX} {e : Expr} {es : List Expr} {ta : TA} {p pos pos2 : Pos}
end
def onlyX (K : Frag) (C : Str) (E : XK) : XK := fun cls d H => cls = .ref (ga K C) ∧ E cls d H
theorem Out1.only {K : Frag} {E : XK} {H : Hp} {C f : Str} {v : V} (o : Out1 K E H C f v) : Out1 K (onlyX K C E) H C f v := fun H' d s h => ⟨rfl, o H' d s h⟩
end Ah

/-! repr of a dict of scalars and lists of scalars -/
namespace Ah
open PySem PySem.Spec PyProof.Rows L2 He
inductive Sc : V → PyData → Prop
  | int (i : Int) : Sc (.int i) (.int i)
  | str (z : Str) : Sc (.str z) (.str z)
  | bl (b : Bool) : Sc (.bl b) (.bool b)
  | non : Sc .non .none
inductive Sv (H : Hp) : V → PyData → Prop
  | sc {v : V} {d : PyData} (h : Sc v d) : Sv H v d
  | lst {a : Addr} {vs : List V} {ds : List PyData} (e : H a = some (.lst vs)) (na : a ≠ sysModules) (p : Paired Sc vs ds) : Sv H (.ref a) (.list ds)
theorem Sc.reads {h : Heap} {v : V} {d : PyData} {u : Value} (x : Sc v d) (r : RelV v u) : Reads h u d [] := by
  cases x with
  | int i =>
    obtain ⟨t, rfl⟩ := r
    exact Reads.int i t
  | str z =>
    obtain ⟨t, rfl⟩ := r
    exact Reads.str z t
  | bl b =>
    cases r
    exact Reads.bool b
  | non =>
    cases r
    exact Reads.none
section
variable {X : Cx} {pins : List (Addr × Obj)} {σ : L2.St} {H : Hp} {s : Shared}
end
end Ah

/-! comprehensions whose items give new lists -/
namespace Ah
open PySem PySem.Spec PyProof.Rows L2 He
end Ah

/-! tuple(dict) -/
namespace Ah
open PySem PySem.Spec PyProof.Rows L2 He
section
variable {prog : Program} {w : World} {A : Around} {E : Value → Shared → Prop} {s : Shared} {r d : Addr} {n : Nat} {P : Nat → Value → Prop} {OK : Heap → Prop}
end
section
variable {X : Cx}
end
end Ah

/-! sorted(xs, key=lambda x: ..) by ints -/
namespace Ah
open PySem PySem.Spec PySem.Calls PyProof.Rows L2 He LamX
section
variable {X : Cx} {pins : List (Addr × Obj)} {σ : L2.St} {H : Hp} {s : Shared}
open PySem.W in
open PySem.W in
open PySem.W in
open PySem.W in
end
section
variable {X : Cx}
end
end Ah

/-! sorted of rows, their first parts different ints -/
namespace Ah
open PySem PySem.Spec PySem.Calls PyProof.Rows L2 He SrtO
def IsRwO (h : Heap) (v : Value) (m : Int) : Prop := ∃ a o t x y z n, v = .ref a ∧ h.get? a = some o ∧ o.cls = .type "tuple" ∧ o.data = .seq #[.int m t, x, y, z] n
theorem IsRwO.keeps {h h' : Heap} {v : Value} {p : Int} (x : IsRwO h v p) (k : ∀ b o, h.get? b = some o → o.cls = .type "tuple" → h'.get? b = some o) : IsRwO h' v p := by
  obtain ⟨a, o, t, x, y, z, n, e, ho, hc, hd⟩ := x
  exact ⟨a, o, t, x, y, z, n, e, k _ _ ho hc, hc, hd⟩
section
variable {prog : Program} {w : World} {A : Around} {E : Value → Shared → Prop} {s : Shared}
end
def unO : V → Option Int
  | .int i => some i
  | _ => none
noncomputable def rowOf (H : Hp) (a : Addr) : LRow := match H a with
  | some (.tup [.int i, .str z, o, w]) => (i, z, unO o, unO w)
  | _ => (0, Str.empty, none, none)
section
variable {X : Cx}
end
end Ah

/-! a list of anything == [], x = [.. for .. in d.values()] -/
namespace Ah
open PySem PySem.Spec PySem.Calls PyProof.Rows L2 He
end Ah

/-! points: >= -/
namespace Ah
open PySem PySem.Spec PySem.Calls PyProof.Rows L2 He
end Ah

/-! try with one clause of five classes (printed by gen/b8.py) -/
namespace Ah
section
open PySem PySem.Spec PySem.Calls PyProof.Rows PySem.W
end
open PySem PySem.Spec PyProof.Rows L2 He
inductive HdV (X : Cx) : List ExceptHandler → List ClauseT → Prop
  | nil : HdV X [] []
  | cons5 {x1 x2 x3 x4 x5 n : Str} {c1 c2 c3 c4 c5 : Value} {i : Nat} {ts : Addr → Value → Option Addr → TS} {b₀ : Stmt} {suite : List Stmt} {np1 np2 np3 np4 np5 tpos pos' : Pos} {kk : Nat} {hds : List ExceptHandler} {l : List ClauseT} (hc1 : Names X x1 c1) (hc2 : Names X x2 c2) (hc3 : Names X x3 c3) (hc4 : Names X x4 c4) (hc5 : Names X x5 c5) (hi : X.N[i]? = some n) (hln : X.env.kindOf n = some .local)
      (hsu : ∀ (a : Addr) (oe : Obj) (cls : Value) (d : Option Addr) (pn : List (Addr × Obj)), Zc cls d oe → (∃ vs, oe.data = .fields vs) → PSs (X.suite a ((a, oe) :: pn)) (b₀ :: suite) (ts a cls d)) (r : HdV X hds l) :
      HdV X (.ExceptHandler (some (.Tuple [.Name x1 np1, .Name x2 np2, .Name x3 np3, .Name x4 np4, .Name x5 np5] kk tpos)) (some n) (b₀ :: suite) pos' :: hds) (⟨[c1, c2, c3, c4, c5], i, ts⟩ :: l)
section
variable {X : Cx} {body : List Stmt} {h₀ : ExceptHandler} {hds : List ExceptHandler} {l : List ClauseT} {pos : Pos} {tb : WX → TS} {Wout : WX}
end
end Ah

/-! dicts whose keys are points -/
namespace Ah
open PySem PySem.Spec PyProof.Rows L2 He LamX
end Ah

/-! a method that captures its class: super().__init__(..) as the last statement -/
namespace Ah
open PySem PySem.Spec PyProof.Rows L2 He
class IsP (fl : Str) (P : Program) : Prop where
  file : P.main.file = fl
  top : (P.main.scope.names.lookup ("super" : Str)).isSome = false
abbrev envK (qual : Str) (scope : Scope) (L f : Addr) (cd : Value) (cc : Addr) : Env := PySem.W.envX qual scope L f cd [("__class__", cc)]
def cxK (P : Program) (w : World) (K : Frag) (mg : Str → Option Value) (base : Heap) (N : List Str) (qual : Str) (scope : Scope) (f : Addr) (cd : Value) (cc : Addr) (A : Around) (outer : List Env) (s : Shared) (H : Hp) (E : XK) : Cx where
  prog := P
  w := w
  K := K
  mg := mg
  base := base
  A := A.deeper (envK qual scope s.heap.objs.size f cd cc)
  N := N
  s_0 := s
  H_0 := H
  env := envK qual scope s.heap.objs.size f cd cc
  outer := outer
  stack := envK qual scope s.heap.objs.size f cd cc :: outer
  ex := []
  calm := true
  fn := fun _ => false
  pn := []
  xe := fun e s' => wpAny (model P w) (A.deeper (envK qual scope s.heap.objs.size f cd cc)) (leaving (envK qual scope s.heap.objs.size f cd cc) e) (fun _ s'' => L2.CX P w outer H s E e s'') (fun e' s'' => L2.CX P w outer H s E e' s'') s'
structure FnScopeK (N ps : List Str) (sc : Scope) : Prop where
  kind : sc.kind = .function
  co : sc.isCoroutine = false
  gen : sc.isGenerator = false
  nd : N.Nodup
  pre : N.take ps.length = ps
  par : ∀ x ∈ ps, sc.names.lookup x = some .local
  nocell : ∀ y ∈ sc.names, y.2 ≠ .cell
  free : ∀ y ∈ sc.names, y.2 = .free → y.1 = ("__class__" : Str)
  cls : sc.names.lookup ("__class__" : Str) = some .free
  sup : sc.names.lookup ("super" : Str) = some .globalImplicit
theorem look_rev {ps : List Str} (nd : ps.Nodup) : ∀ {us : List Value} {i : Nat} {y : Str} {u : Value}, ps[i]? = some y → us[i]? = some u → (ps.zip us).reverse.lookup y = some u := by
  intro us i y u hy hu
  have hm : (y, u) ∈ ps.zip us := by
    refine List.mem_of_getElem? (i := i) ?_
    rw [List.getElem?_zip_eq_some]
    exact ⟨hy, hu⟩
  have hm2 : (y, u) ∈ (ps.zip us).reverse := List.mem_reverse.mpr hm
  have hnd : ((ps.zip us).reverse.map (·.1)).Nodup := by
    rw [List.map_reverse, (List.reverse_perm _).nodup_iff]
    have : List.Sublist ((ps.zip us).map (·.1)) ps := by
      clear hm hm2 hy hu nd
      induction ps generalizing us with
      | nil => simp
      | cons p ps ih =>
        cases us with
        | nil => simp
        | cons v us =>
          rw [List.zip_cons_cons, List.map_cons]
          exact (ih (us := us)).cons₂ p
    exact nd.sublist this
  generalize (ps.zip us).reverse = l at hm2 hnd
  induction l with
  | nil => cases hm2
  | cons q l ih =>
    obtain ⟨a, b⟩ := q
    rw [List.map_cons, List.nodup_cons] at hnd
    rcases List.mem_cons.mp hm2 with e | hm2
    · cases e
      simp [List.lookup]
    · have ne : y ≠ a := fun e => hnd.1 (List.mem_map.mpr ⟨(y, u), hm2, e⟩)
      have : (y == a) = false := by simpa using ne
      rw [List.lookup, this]
      exact ih hm2 hnd.2
section
variable {P : Program} {w : World} {K : Frag} {mg : Str → Option Value} {base : Heap} {N ps : List Str} {qual : Str} {scope : Scope} {f cc : Addr} {cd : Value} {A : Around} {outer : List Env} {s : Shared} {H : Hp} {E : XK}
theorem lookK {x : Str} {c : Addr} (h : ([("__class__", cc)] : List (Str × Addr)).lookup x = some c) : x = ("__class__" : Str) ∧ c = cc := by
  by_cases e : x = ("__class__" : Str)
  · subst e
    simp [List.lookup] at h
    exact ⟨rfl, h.symm⟩
  · have : (x == ("__class__" : Str)) = false := by simpa using e
    rw [List.lookup, this] at h
    cases h
theorem inv_startK {us : List Value} {vs : List V} {h1 : Heap} {t : Nat} {cl : Value} {cld : Option Addr} {csl : Array (Option Value)} {v0 : Value} (S : FnScopeK N ps scope) (hd : A.handled = none) (e0 : Env0 P w K mg base A outer s H) (hc : K.lookup cc = some ⟨cl, cld, .cell (some v0), csl⟩) (hl : vs.length = ps.length) (r : Vals vs us)
    (hns : h1.Ns s.heap.objs.size (fun x => (ps.zip us).reverse.lookup x)) (hk : ∀ b o, s.heap.get? b = some o → h1.get? b = some o) :
    Inv (cxK P w K mg base N qual scope f cd cc A outer s H E) [] (L2.start N vs) H { s with heap := h1, toks := t } := by
  have hpl : ps.length ≤ N.length := by
    have := congrArg List.length S.pre
    rw [List.length_take] at this
    omega
  have ndP : ps.Nodup := by
    rw [← S.pre]
    exact S.nd.sublist (List.take_sublist _ _)
  have hb := e0.mod.kin _ _ hc
  have hs := (e0.bs _ _ hb).1
  have noA : ∀ b : Addr, b ∉ (cxK P w K mg base N qual scope f cd cc A outer s H E).ex := fun b z => absurd (show b ∈ ([] : List Addr) from z) (by simp)
  refine ⟨⟨e0.mod, S.kind, rfl, rfl, Nat.le_refl _, fun y z c a b => (lookK a).1.trans (lookK b).1.symm, fun y hy => ?_, fun y c z _ => Bool.noConfusion (show false = true from z), fun _ => hd, Around.frames_deeper e0.frames, .inr ⟨rfl, rfl⟩, fun b z => absurd z (noA b), e0.bs, e0.bsz, fun b _ _ => noA b, fun b z => absurd z (noA b), e0.funs, e0.frf⟩,
    rfl, e0.bare, Un.kept hk, ⟨_, hns, fun i y v a1 a2 a3 => ?_⟩, fun y c a => ?_, e0.hok.fresh (Nat.le_refl _), fun y c a => ?_, fun p hp => absurd (show p ∈ ([] : List (Addr × Obj)) from hp) (by simp), e0.hok.kept hk, ?_⟩
  · have hy : scope.names.lookup y = some .cell ∨ scope.names.lookup y = some .free := hy
    rcases hy with hy | hy
    · exact absurd rfl (S.nocell _ (PySem.mem_of_lookup hy))
    · have := S.free _ (PySem.mem_of_lookup hy) rfl
      refine ⟨cc, ?_⟩
      have this : y = ("__class__" : Str) := this
      rw [this]
      rfl
  · have hi : i < vs.length := by
      unfold L2.start at a2
      by_cases hi : i < vs.length
      · exact hi
      · rw [List.getElem?_append_right (by simpa using hi)] at a2
        rw [List.getElem?_replicate] at a2
        split at a2 <;> cases a2
    have ha : vs[i]? = some v := by
      unfold L2.start at a2
      rw [List.getElem?_append_left (by simpa using hi), List.getElem?_map] at a2
      cases e : vs[i]? with
      | none => rw [e] at a2; cases a2
      | some a => rw [e] at a2; cases a2; rfl
    obtain ⟨u, hu, rv⟩ := r.get ha
    have hp : ps[i]? = some y := by
      rw [← S.pre, List.getElem?_take_of_lt (by omega)]
      exact a1
    exact ⟨u, rv, .inl ⟨S.par y (List.mem_of_getElem? hp), look_rev ndP hp hu⟩⟩
  · obtain ⟨_, rfl⟩ := lookK (show ([("__class__", cc)] : List (Str × Addr)).lookup y = some c from a)
    exact ⟨some v0, _, hk _ _ hs, rfl⟩
  · obtain ⟨_, rfl⟩ := lookK (show ([("__class__", cc)] : List (Str × Addr)).lookup y = some c from a)
    exact (e0.bs _ _ hb).2
  · unfold L2.start
    show _ = N.length
    rw [List.length_append, List.length_map, List.length_replicate]
    omega
end
structure PsK (X : Cx) (body : List Stmt) (st : List Stmt) (t : TS) : Prop where
  run : ∀ (pins : List (Addr × Obj)) (s : Shared) (σ : L2.St) (H : Hp) (D : Ends), Inv X pins σ H s → t D σ H → _root_.PySem.wpAt (model X.prog X.w) X.A (.func body X.env) (execs st X.env) (SP X pins D) X.xe s
theorem psk_cons {X : Cx} {body : List Stmt} {st : Stmt} {r : List Stmt} {t u : TS} (h : PS X st t) (hr : PsK X body r u) : PsK X body (st :: r) (tSeq t u) := by
  refine ⟨fun pins s σ H D I q => PySem.ks_wpAt_execs_cons (wpAt_of_wpAny (wpAny_mono (h.run pins s σ H _ I q) (fun fl s1 h1 => ?_) fun _ _ x => x))⟩
  cases fl with
  | next =>
    obtain ⟨σ1, H1, I1, q1⟩ := h1
    exact hr.run pins s1 σ1 H1 D I1 q1
  | ret v => exact h1
  | brk => exact h1
  | cont => exact h1
structure SupOk (K : Frag) (fl : Str) (C f2 f cc cda : Addr) (cd : Value) (d : DefG) : Prop where
  fn : ∃ (oc : Value) (od : Option Addr) (kV doc pm : Value) (an : Option Addr) (ct : Value) (osl : Array (Option Value)), K.lookup f = some ⟨oc, od, .func (PySem.W.fnX d.name d.qual d.params d.body d.scope [("__class__", cc)] .none kV doc pm an cd ct), osl⟩
  code : cd = .ref cda
  file : ∃ (oc : Value) (od : Option Addr) (vs : Array Value) (osl : Array (Option Value)) (tf : Tok), K.lookup cda = some ⟨oc, od, .fields vs, osl⟩ ∧ vs[2]? = some (.str fl tf)
  rec_ : PySem.W.codeIn K cd d.qual = true
  cell : ∃ (cl : Value) (cld : Option Addr) (csl : Array (Option Value)), K.lookup cc = some ⟨cl, cld, .cell (some (.ref C)), csl⟩
  cls : ∃ c, PySem.W.clsIn K C = some c
  sub : PySem.W.mroIn K C (.ref C) = some true
  sup : PySem.W.ks_superIn K C C "__init__" = some (some (.ref f2))
  isf : PySem.W.typeIn K (.ref f2) = some (.type "function")
  fnf : PySem.W.fnIn K f2 = true
  stat : PySem.W.nsIn K cStatics "thirdparty.any" = some none
  kp : PySem.W.keepIn K (.ref f) = true
def tSup (C : Addr) (sp : Sp) (E : XK) (t : TA) : TS := fun D σ H => ∃ x dx fs, σ[0]? = some (some (.ref x)) ∧ H x = some (.ins C dx fs) ∧ t σ H fun vs H1 => sp (.ref x :: vs) H1 (fun _ H2 => D.nx σ H2) E
theorem psk_sup {P : Program} {w : World} {K : Frag} {mg : Str → Option Value} {base : Heap} {N ps : List Str} {d : DefG} {f cc cda C f2 : Addr} {cd : Value} {A : Around} {outer : List Env} {s0 : Shared} {H0 : Hp} {E0 E : XK} {fl : Str} {ar : Arg} {k j : Nat} {sp : Sp} {e : Expr} {es : List Expr} {t : TA} {body : List Stmt} {p0 p1 p2 p3 p4 : Pos} {pl : Sem Bool}
    [ip : IsP fl P] (Z : SupOk K fl C f2 f cc cda cd d) (S : FnScopeK N ps d.scope) (hp : (d.params.posonlyargs ++ d.params.args).head? = some ar) (h0 : N[0]? = some ar.arg) (hl : d.scope.names.lookup ar.arg = some .local)
    (F : FnB P w K mg base k f2 sp) (hr : Rm j (A.deeper (envK d.qual d.scope s0.heap.objs.size f cd cc))) (hkj : k ≤ j) (hx : Passes (L2.CX P w) (cxK P w K mg base N d.qual d.scope f cd cc A outer s0 H0 E0) E) (hm : mg "super" = none)
    (ha : PA (cxK P w K mg base N d.qual d.scope f cd cc A outer s0 H0 E0) (e :: es) t)
    (hi : interactive (envK d.qual d.scope s0.heap.objs.size f cd cc) = false := by rfl)
    (hs : swapsWith (.Call (.Attribute (.Call (.Name "super" p0) [] [] p1) "__init__" p2) (e :: es) [] p3) none p4.line (envK d.qual d.scope s0.heap.objs.size f cd cc) = pure false := by rfl)
    (hst : starEach (e :: es) (envK d.qual d.scope s0.heap.objs.size f cd cc) = (false, eval e (envK d.qual d.scope s0.heap.objs.size f cd cc)) :: starEach es (envK d.qual d.scope s0.heap.objs.size f cd cc) := by rfl) (hpl : (backTo p3 (starEach es (envK d.qual d.scope s0.heap.objs.size f cd cc))).any (·.1) = false := by rfl)
    (he : eval (.Call (.Attribute (.Call (.Name "super" p0) [] [] p1) "__init__" p2) (e :: es) [] p3) (envK d.qual d.scope s0.heap.objs.size f cd cc) = (do
      let ov ← attributeBase (.Call (.Name "super" p0) [] [] p1) "__init__" (envK d.qual d.scope s0.heap.objs.size f cd cc) (eval (.Call (.Name "super" p0) [] [] p1) (envK d.qual d.scope s0.heap.objs.size f cd cc))
      standAt p2.atName
      let (f', first) ← holding [ov] (getMethod ov "__init__" pl)
      callWith p3 f' first (backTo p3 (starEach (e :: es) (envK d.qual d.scope s0.heap.objs.size f cd cc))) []) := by rfl) :
    PsK (cxK P w K mg base N d.qual d.scope f cd cc A outer s0 H0 E0) body [.Expr (.Call (.Attribute (.Call (.Name "super" p0) [] [] p1) "__init__" p2) (e :: es) [] p3) p4] (tSup C sp E t) := by
  refine ⟨fun pins s σ H D I q => ?_⟩
  obtain ⟨x, dx, fs, hσ, ex, q⟩ := q
  obtain ⟨oc, od, kV, doc, pm, an, ct, osl, lk⟩ := Z.fn
  obtain ⟨oc2, od2, vs2, osl2, tf, lk2, hv2⟩ := Z.file
  obtain ⟨cl, cld, csl, lk3⟩ := Z.cell
  obtain ⟨cdC, hcd⟩ := Z.cls
  have KI : K.In s.heap := I.kIn
  obtain ⟨oD, hD1, hD2⟩ : ∃ oD, s.heap.get? C = some oD ∧ oD.data = .cls cdC := by
    have hcd := hcd
    unfold PySem.W.clsIn at hcd
    split at hcd
    · rename_i c d cd' sl ho
      cases hcd
      exact ⟨_, KI _ _ ho, rfl⟩
    · cases hcd
  have ecd := Z.code
  obtain ⟨m, hn, hlk⟩ := I.loc
  obtain ⟨u, ru, lu⟩ := hlk 0 ar.arg _ h0 hσ (.inl hl)
  cases (show u = Value.ref x from ru)
  have hself : m ar.arg = some (.ref x) := by
    rcases lu with ⟨_, h⟩ | ⟨h, _⟩
    · exact h
    · have h : d.scope.names.lookup ar.arg = some .cell ∨ d.scope.names.lookup ar.arg = some .free := h
      rw [hl] at h
      rcases h with h | h <;> cases h
  obtain ⟨_, _, _, hox, _⟩ := I.hok _ _ ex
  refine PySem.ks_wpAt_execs_cons (PySem.ks_wpAt_Expr_any (PySem.ks_wpAt_MethodCall (pl := pl) (PySem.ks_wpAt_super_base (env := envK d.qual d.scope s0.heap.objs.size f cd cc) (cc := cda) S.sup S.cls rfl rfl (KI _ _ lk) rfl hp ecd (KI _ _ lk2) rfl hv2 (by rw [show (cxK P w K mg base N d.qual d.scope f cd cc A outer s0 H0 E0).prog = P from rfl, ip.file]; exact beq_self_eq_true _) ip.top ?_) he) hi hs)
  obtain ⟨mb, b1, b2⟩ := I.mod.blt
  refine PySem.W.ks_loadName_global I.ok.kind S.sup (PySem.Calls.loadGlobal_builtin (I.mod.glob.keeps I.bk) hm (b1.keeps I.bk) ((b2 _ (by decide)).trans (show bootBuiltins "super" = some (.type "super") from by first | rfl | decide +kernel)) ⟨rfl, ?_⟩)
  refine wpAny_loadName_free (c := cc) I.ok.kind S.cls rfl ⟨_, KI _ _ lk3, rfl⟩ ?_
  refine wpAny_loadName_local I.ok.kind hl hn hself ?_
  refine PySem.ks_wpAny_isType_cls hD1 hD2 ⟨rfl, ?_⟩
  refine PySem.ks_wpAny_call_super hD1 hD2 hox rfl (fun c z => by cases z) (PySem.W.looks_mroIn KI Z.sub) (fun h1 hso kp => ?_)
  have I1 : Inv (cxK P w K mg base N d.qual d.scope f cd cc A outer s0 H0 E0) pins σ H { s with heap := h1 } := I.kept (t' := s.toks) kp
  have KI1 : K.In h1 := I1.kIn
  have hsup : PySem.W.alongIn K "__init__" ((cdC.mro.dropWhile (· != .ref C)).drop 1) = some (some (.ref f2)) := by
    have z := Z.sup
    unfold PySem.W.ks_superIn at z
    rw [hcd] at z
    exact z
  obtain ⟨of, hof, hofc⟩ : ∃ of, h1.get? f2 = some of ∧ of.cls = .type "function" := by
    have z : (K.lookup f2).map (·.cls) = some (.type "function") := Z.isf
    cases y : K.lookup f2 with
    | none => rw [y] at z; cases z
    | some of => rw [y] at z; exact ⟨of, KI1 _ _ y, Option.some.inj z⟩
  have hne : x ≠ C := fun z => by
    rw [z, hD1] at hox
    cases hox
    cases hD2
  refine PySem.ks_wpAny_getMethod_super (K := K) hso (PySem.W.looks_opaque KI1 Z.stat) (l₀ := cdC.mro) (fun A Q E s k q => wpAny_bind ((PySem.W.looks_clsIn KI1 hcd) A _ E s k (wpAny_pure q))) rfl KI1 hsup hof hofc hne (by decide) ?_
  have hq : (h1.push (PySem.W.methodObj (.ref f2) (.ref x))).get? h1.objs.size = some (PySem.W.methodObj (.ref f2) (.ref x)) := Heap.get?_push_at rfl rfl
  have I2 : Inv (cxK P w K mg base N d.qual d.scope f cd cc A outer s0 H0 E0) pins σ H { s with heap := h1.push (PySem.W.methodObj (.ref f2) (.ref x)), toks := s.toks + 1 } := I1.kept (t' := s.toks + 1) (fun b o e => Heap.get?_push_of_some _ e)
  have fp : ∀ b ∈ [h1.objs.size], FpOk (cxK P w K mg base N d.qual d.scope f cd cc A outer s0 H0 E0) pins H b := fun b hb => by
    rw [List.mem_singleton.mp hb]
    exact I1.fpOk (Nat.le_refl _) (I1.hok.fresh (Nat.le_refl _))
  have I3 := I2.pinned fp (fun b hb => by
    rw [List.mem_singleton.mp hb]
    exact ⟨_, hq, fun v z => by cases z⟩)
  have hpin : (h1.objs.size, PySem.W.methodObj (.ref f2) (.ref x)) ∈ pinsAt [h1.objs.size] (h1.push (PySem.W.methodObj (.ref f2) (.ref x))) := mem_pinsAt List.mem_cons_self hq
  have nn : News base (cxK P w K mg base N d.qual d.scope f cd cc A outer s0 H0 E0).env.locals (h1.push (PySem.W.methodObj (.ref f2) (.ref x))) [(h1.objs.size, PySem.W.methodObj (.ref f2) (.ref x))] := fun p hp => by
    rw [List.mem_singleton.mp hp]
    have z := I3.pin _ (List.mem_append_right _ (List.mem_append_right _ hpin))
    refine ⟨hq, z.2.2.1, ?_⟩
    cases y : base.get? h1.objs.size with
    | none => rfl
    | some o => exact absurd (Heap.lt_size (kp _ _ ((I.bs _ _ y).1))) (Nat.lt_irrefl _)
  refine PySem.W.callWith_M (h₀ := base) (first := []) (g := f2) (self := .ref x) I.mod.kin nn List.mem_cons_self Z.fnf (thn (ha.run p3 _ _ σ H _ I3 q) fun us s3 ⟨vs, H3, I4, r, q4⟩ => ?_) hst hpl
  have z4 := I4.pin _ (List.mem_append_right _ (List.mem_append_right _ hpin))
  have I5 := I4.unpinned
  refine ⟨⟨z4.1, I4.kIn⟩, ?_⟩
  refine wpAny_call (PySem.ks_codeAny_call_bound (f := f2) (x := .ref x) (a := ⟨[] ++ us, []⟩) z4.1 ?_)
  refine codeAny_mono (runB (k := k) F (hr.mono hkj) I5.env0 hx I5 (us := .ref x :: us) (vs := .ref x :: vs) (.cons rfl r) q4) fun res s' hq' => ?_
  match res, hq' with
  | .error e', hq' => exact hq'
  | .ok (.ret u), hq' =>
    obtain ⟨v, H', I6, rv, q6⟩ := hq'
    exact wpAt_of_wpAny (wpAny_execs_nil ⟨σ, H', I6, q6⟩)
def BodyK (P : Program) (w : World) (K : Frag) (mg : Str → Option Value) (base : Heap) (N : List Str) (d : DefG) (cd : Value) (cc : Addr) (k : Nat) (sp : Sp) : Prop :=
  ∀ (A : Around) (outer : List Env) (s : Shared) (H : Hp) (vs : List V) (Q : VK) (E : XK), Rm k (A.deeper (envK d.qual d.scope s.heap.objs.size (d.ad K) cd cc)) → sp vs H Q E →
    ∃ t, PsK (cxK P w K mg base N d.qual d.scope (d.ad K) cd cc A outer s H E) d.body d.body t ∧ t { nx := fun _ H' => Q .non H', rt := Q } (L2.start N vs) H
theorem okK {P : Program} {w : World} {K : Frag} {mg : Str → Option Value} {base : Heap} {N ps : List Str} {k : Nat} {sp : Sp} {d : DefG} {fl : Str} {C f2 cc cda : Addr} {cd : Value} (Z : SupOk K fl C f2 (d.ad K) cc cda cd d) (S : FnScopeK N ps d.scope) (len : ∀ vs H Q E, sp vs H Q E → vs.length = ps.length)
    (hb : ∀ (kV doc pm : Value) (an : Option Addr) (cdv ct : Value) (us : List Value), us.length = ps.length → bindArgs (PySem.W.fnX d.name d.qual d.params d.body d.scope [("__class__", cc)] .none kV doc pm an cdv ct) ⟨us, []⟩ = pure (ps.zip us))
    (hbody : BodyK P w K mg base N d cd cc k sp) : FnB P w K mg base (k + 1) (d.ad K) sp := by
  refine ⟨fun A outer s H us vs Q E hr e0 r hsp => ?_, Z.kp⟩
  obtain ⟨oc, od, kV, doc, pm, an, ct, osl, lk⟩ := Z.fn
  obtain ⟨cl, cld, csl, lk3⟩ := Z.cell
  have hl := len _ _ _ _ hsp
  have KI : K.In s.heap := e0.mod.kin.keeps fun b o e => (e0.bs b o e).1
  have lim : s.heap.NoLimit := e0.mod.nolimit.keeps fun b o e => (e0.bs b o e).1
  have b := (Binds.all (K := K) (fun us h => hb kV doc pm an cd ct us h)) s us KI (by rw [List.append_nil, ← r.length]; exact hl)
  rw [List.append_nil] at b
  have hr' : Rm k (A.deeper (envK d.qual d.scope s.heap.objs.size (d.ad K) cd cc)) := ⟨hr.r.deeper _, hr.g⟩
  obtain ⟨t, ht, hq⟩ := hbody A outer s H vs Q E hr' hsp
  refine PySem.ks_codeAny_call_defAt (body := d.body) (binds := ps.zip us) hr.r.depth (KI _ _ lk) rfl lim (PySem.W.codeRec_of KI Z.rec_) rfl b S.nocell (fun y hy => S.par _ (List.of_mem_zip hy).1) (fun h1 hns hk => ?_) S.co S.gen S.kind
  have I := inv_startK (E := E) (t := s.toks + (ps.zip us).length) S hr.r.hd e0 lk3 hl r hns hk (cd := cd) (qual := d.qual) (f := d.ad K)
  refine PySem.ks_wpAt_mono (ht.run [] _ (L2.start N vs) H _ I hq) (fun fl s' hs => ?_) fun _ _ hs => hs
  cases fl with
  | ret u =>
    obtain ⟨v, _, H', J, rv, q⟩ := hs
    exact ⟨v, H', J.os, J.bare, J.base, J.hok, rv, q⟩
  | next =>
    obtain ⟨_, H', J, q⟩ := hs
    exact ⟨V.non, H', J.os, J.bare, J.base, J.hok, rfl, q⟩
  | brk => exact hs.elim fun _ z => z.elim fun _ z => z.2.elim
  | cont => exact hs.elim fun _ z => z.elim fun _ z => z.2.elim
def ccK (K : Frag) (a : Addr) : Addr := match K.lookup a with
  | some ⟨_, _, .func fd, _⟩ => (match fd.closure with
    | (_, c) :: _ => c
    | _ => 0)
  | _ => 0
def supF (fl : Str) (K : Frag) (v : Value) : Bool := match v with
  | .ref cda => (match K.lookup cda with
    | some ⟨_, _, .fields vs, _⟩ => (match (vs[2]? : Option Value) with
      | some (Value.str f _) => decide (f = fl)
      | _ => false)
    | _ => false)
  | _ => false
def supC (K : Frag) (C c : Addr) : Bool := match K.lookup c with
  | some ⟨_, _, .cell (some (.ref b)), _⟩ => decide (b = C)
  | _ => false
def supB (fl C B : Str) (d : DefG) (K : Frag) : Bool := supF fl K (CodeV K (d.ad K)) && (supC K (ga K C) (ccK K (d.ad K)) && ((PySem.W.clsIn K (ga K C)).isSome && (decide (PySem.W.mroIn K (ga K C) (.ref (ga K C)) = some true) && (eqO (PySem.W.ks_superIn K (ga K C) (ga K C) "__init__") (some (some (.ref (mtA B "__init__" K)))) &&
  (PySem.W.isFn K (.ref (mtA B "__init__" K)) && (PySem.W.fnIn K (mtA B "__init__" K) && eqO (PySem.W.nsIn K cStatics "thirdparty.any") (some none)))))))
theorem supB_ok {K : Frag} {fl C B : Str} {d : DefG} (S : StandsC K d) (h0 : d.clo = [("__class__" : Str)]) (hd : d.dfl = []) (h : supB fl C B d K = true) : SupOk K fl (ga K C) (mtA B "__init__" K) (d.ad K) (ccK K (d.ad K)) (codeA K (d.ad K)) (CodeV K (d.ad K)) d := by
  obtain ⟨h1, h⟩ := ba h
  obtain ⟨h2, h⟩ := ba h
  obtain ⟨h3, h⟩ := ba h
  obtain ⟨h4, h⟩ := ba h
  obtain ⟨h5, h⟩ := ba h
  obtain ⟨h6, h⟩ := ba h
  obtain ⟨h7, h8⟩ := ba h
  obtain ⟨oc, od, cl, dV, kV, doc, pm, an, cdv, ct, osl, lk, ecl, hdf, hcd, kp⟩ := S
  obtain rfl : dV = .none := by
    rcases hdf with ⟨_, e⟩ | ⟨ne, _⟩
    · exact e
    · refine absurd ?_ ne
      unfold DefG.dvs
      rw [hd]
      rfl
  have ecv : CodeV K (d.ad K) = cdv := by
    unfold CodeV
    rw [lk]
  obtain ⟨c, rfl⟩ : ∃ c, cl = [(("__class__" : Str), c)] := by
    rw [h0] at ecl
    match cl, ecl with
    | [(a, b)], ecl =>
      have : a = ("__class__" : Str) := by simpa using ecl
      exact ⟨b, by rw [this]⟩
  have ecc : ccK K (d.ad K) = c := by
    unfold ccK
    rw [lk]
  obtain ⟨cda, e1, oc2, od2, vs, osl2, tf, lk2, hv⟩ : ∃ cda, cdv = .ref cda ∧ ∃ (oc : Value) (od : Option Addr) (vs : Array Value) (osl : Array (Option Value)) (tf : Tok), K.lookup cda = some ⟨oc, od, .fields vs, osl⟩ ∧ vs[2]? = some (.str fl tf) := by
    rw [ecv] at h1
    unfold supF at h1
    split at h1
    · split at h1
      · split at h1
        · exact ⟨_, rfl, _, _, _, _, _, by assumption, by rw [← of_decide_eq_true h1]; assumption⟩
        · cases h1
      · cases h1
    · cases h1
  have eca : codeA K (d.ad K) = cda := by
    unfold codeA
    rw [ecv, e1]
  rw [ecc, eca, ecv]
  refine ⟨⟨oc, od, kV, doc, pm, an, ct, osl, lk⟩, e1, ⟨oc2, od2, vs, osl2, tf, lk2, hv⟩, hcd, ?_, Option.isSome_iff_exists.mp h3, of_decide_eq_true h4, eqO_ok h5, beq_iff_eq.mp h6, h7, eqO_ok h8, kp⟩
  rw [ecc] at h2
  unfold supC at h2
  split at h2
  · exact ⟨_, _, _, by rw [← of_decide_eq_true h2]; assumption⟩
  · cases h2
end Ah

/-! x & y, x | y, ~x by own methods; the two of different classes, none above the other -/
namespace Ah
open PySem PySem.Spec PySem.W PySem.Calls PyProof.Rows L2 He
section
variable {prog : Program} {w : World} {A : Around} {E : Value → Shared → Prop} {s : Shared} {K : Frag} {x y C C2 L f f2 : Addr} {h₀ : Heap} {m : Str → Option Value} {ox oy : Obj} {od od2 : Option Obj}
theorem binop_D {op : Operator} {Q : Value → Shared → Prop} (F : Fr h₀ L s.heap m) (X₀ : K.In h₀) (I : InstAt s.heap x ox C od) (I2 : InstAt s.heap y oy C2 od2) (hn : C ≠ C2) (hc : selfFirst K C = true) (hc2 : selfFirst K C2 = true)
    (hs : findIn K (.ref C) (PySem.dunder op.info.2) = some (some (.ref f))) (hf : isFn K (.ref f) = true) (hs2 : findIn K (.ref C2) (PySem.dunder op.info.2) = some (some (.ref f2))) (hr : findIn K (.ref C) (dunderR op.info.2) = some none) (hr2 : findIn K (.ref C2) (dunderR op.info.2) = some none)
    (hsub : mroIn K C2 (.ref C) = some false) (h : wpAny (model prog w) A (call (.ref f) [.ref x, .ref y]) (PySem.W.CmpBack Q) E s) : wpAny (model prog w) A (binaryOp op (.ref x) (.ref y)) Q E s := by
  have X := X₀.keeps F.keep
  obtain ⟨cd, rest, hcd, hm⟩ := ksp_first hc
  obtain ⟨cd2, rest2, hcd2, hm2⟩ := ksp_first hc2
  rcases hi : op.info with ⟨sym, nm'⟩
  rw [hi] at hs hs2 hr hr2
  dsimp only at hs hs2 hr hr2
  have one := ksp_try X I hs hf h
  obtain ⟨hh, g, d, tt, os⟩ := s
  have L1 : Looks (model prog w) hh (typeOf (.ref x)) (.ref C) := I.type
  have L2 : Looks (model prog w) hh (typeOf (.ref y)) (.ref C2) := I2.type
  have L3 : Looks (model prog w) hh (fillsNumberSlot (.ref C) nm') true := fills_K X hcd hm hs
  have L4 : Looks (model prog w) hh (fillsNumberSlot (.ref C2) nm') true := fills_K X hcd2 hm2 hs2
  have L5 : Looks (model prog w) hh (isSubtype (.ref C2) (.ref C)) false := looks_mroIn X hsub
  have L6 : Looks (model prog w) hh (numberSlotInPython (.ref C) nm') true := ksp_inPy X hs hr (.inl rfl)
  have L7 : Looks (model prog w) hh (numberSlotInPython (.ref C2) nm') true := ksp_inPy X hs2 hr2 (.inl rfl)
  have hne : (Value.ref C == Value.ref C2) = false := Bool.eq_false_iff.mpr fun q => by
    have := beq_iff_eq.mp q
    exact hn (Value.ref.inj this)
  simp only [binaryOp, hi]
  refine wpAny_holding (wpAny_bind ?_)
  unfold binaryOp1
  refine wpAny_bind (L1.at (wpAny_bind (L2.at (wpAny_bind (L3.at ?_)))))
  simp only [hne, Bool.false_eq_true, if_false]
  ksp_lk
  refine wpAny_mono one (fun r s' hr' => ?_) fun _ _ e => e
  obtain ⟨v, rfl, hq⟩ := hr'
  ksp_lk
  exact hq
end
structure BinOk (K : Frag) (nm : String) (C C2 f f2 : Addr) : Prop where
  one : selfFirst K C = true
  two : selfFirst K C2 = true
  s1 : findIn K (.ref C) (PySem.dunder nm) = some (some (.ref f))
  fn : isFn K (.ref f) = true
  s2 : findIn K (.ref C2) (PySem.dunder nm) = some (some (.ref f2))
  r1 : findIn K (.ref C) (dunderR nm) = some none
  r2 : findIn K (.ref C2) (dunderR nm) = some none
  sub : C ≠ C2 → mroIn K C2 (.ref C) = some false
section
variable {X : Cx} {k j : Nat} {sp : Sp} {E : XK}
def rBinD (cs : List Addr) (sp : Sp) (E : XK) : R2 := fun x y H Q => ∃ C ∈ cs, ∃ C2 ∈ cs, ∃ a dx fs b dy gs, x = .ref a ∧ y = .ref b ∧ H a = some (.ins C dx fs) ∧ H b = some (.ins C2 dy gs) ∧ sp [x, y] H Q E
theorem op_binD {op : Operator} {cs : List Addr} (B : ∀ C ∈ cs, ∀ C2 ∈ cs, ∃ f f2, BinOk X.K op.info.2 C C2 f f2 ∧ ∃ k, k ≤ j ∧ FnB X.prog X.w X.K X.mg X.base k f sp) (hr : Rm j X.A) (hx : Passes (L2.CX X.prog X.w) X E) : OpR X (binaryOp op) (rBinD cs sp E) := by
  intro pins s σ H x y v u Q I rx ry h
  obtain ⟨C, hC, C2, hC2, a, dx, fs, b, dy, gs, rfl, rfl, ha, hb, q⟩ := h
  obtain ⟨f, f2, B, k, hk, F⟩ := B C hC C2 hC2
  cases (show v = Value.ref a from rx)
  cases (show u = Value.ref b from ry)
  obtain ⟨mA, O, _⟩ := ins_get I.hok ha
  obtain ⟨od, J, _⟩ := O.look
  obtain ⟨mB, O2, _⟩ := ins_get I.hok hb
  obtain ⟨od2, J2, _⟩ := O2.look
  obtain ⟨m, hF⟩ := I.fr
  have key : wpAny (model X.prog X.w) X.A (call (.ref f) [.ref a, .ref b]) (PySem.W.CmpBack (EP X pins σ Q)) X.xe s := by
    refine wpAny_mono (wpAny_call (runB (us := [.ref a, .ref b]) (vs := [.ref a, .ref b]) F (hr.mono hk) I.env0 hx I (.cons rfl (.cons rfl .nil)) q)) (fun w s' z => ?_) fun _ _ x => x
    obtain ⟨z', H', I', rz, qz⟩ := z
    have z2 : EP X pins σ Q w s' := ⟨z', H', I', rz, qz⟩
    cases w with
    | notImplemented => cases z' <;> first | exact nomatch rz | (obtain ⟨t, e⟩ := rz; exact nomatch e)
    | _ => exact z2
  by_cases e : C = C2
  · subst e
    exact binop_K hF I.ok.mod.kin J J2.type B.one B.s1 B.fn key
  · exact binop_D hF I.ok.mod.kin J J2 e B.one B.two B.s1 B.fn B.s2 B.r1 B.r2 (B.sub e) key
def rInvD (cs : List Addr) (sp : Sp) (E : XK) : V → Hp → VK → Prop := fun x H Q => ∃ C ∈ cs, ∃ a dx fs, x = .ref a ∧ H a = some (.ins C dx fs) ∧ sp [x] H Q E
theorem un_invD {cs : List Addr} (B : ∀ C ∈ cs, ∃ f, findIn X.K (.ref C) "__invert__" = some (some (.ref f)) ∧ isFn X.K (.ref f) = true ∧ ∃ k, k ≤ j ∧ FnB X.prog X.w X.K X.mg X.base k f sp) (hr : Rm j X.A) (hx : Passes (L2.CX X.prog X.w) X E) : UnR X (unaryOp .Invert) (rInvD cs sp E) := by
  intro pins s σ H x v Q I rx h
  obtain ⟨C, hC, a, dx, fs, rfl, ha, q⟩ := h
  obtain ⟨f, hs, hf, k, hk, F⟩ := B C hC
  cases (show v = Value.ref a from rx)
  obtain ⟨mA, O, _⟩ := ins_get I.hok ha
  obtain ⟨od, J, _⟩ := O.look
  obtain ⟨m, hF⟩ := I.fr
  exact ksp_inv hF I.ok.mod.kin J hs hf (wpAny_call (runB (us := [.ref a]) (vs := [.ref a]) F (hr.mono hk) I.env0 hx I (.cons rfl .nil) q))
end
end Ah

/-! == of tuples item by item, to its end or to the first two that differ; facts of sibling classes below one class -/
namespace Ah
open PySem PySem.Spec PySem.W PyProof.Rows L2 He
section
open AutoSeq1 (wpAny_loadPart')
open MeetsSeq MeetsSeq2 MeetsSeq3 SeqRoads2 PySem.SeqAt
section
variable {prog : Program} {w : World} {A : Around} {R : Result → Shared → Prop}
theorem tuple_eqD (l b : Addr) (items items2 : Array Value) (n n2 : Nat) (dd dd2 : Option Addr) (sl sl2 : Array (Option Value)) (r : Bool) (e : Nat → Bool) (I : Shared → Prop)
    (turn : ∀ i (h1 : i < items.size) (h2 : i < items2.size) s, I s → (∀ j, j < i → e j = true) → wpAny (model prog w) A.in1 (eqBool items[i] items2[i]) (fun r s' => r = e i ∧ I s') (fun e s' => R (.error e) s') s)
    (he : r = ((List.range (min items.size items2.size)).all e && (items.size == items2.size)))
    (fin : ∀ s, I s → R (.ok (.ret (.bool r))) s) {s : Shared} (hl1 : s.heap.get? l = some { cls := .type "tuple", dict := dd, data := .seq items n, slots := sl }) (hb1 : s.heap.get? b = some { cls := .type "tuple", dict := dd2, data := .seq items2 n2, slots := sl2 }) (h : I s) :
    wpAny (model prog w) A.in1 (Builtin.«tuple.__eq__» ⟨[.ref l, .ref b], []⟩) (GQ.FinOf prog w A R) (fun e s' => R (.error e) s') s := by
  have f2 := AutoSeq1.sub_tuple_tuple
  have hZ : (items.toList.zip items2.toList).length = min items.size items2.size := by simp
  have h0 := h
  obtain ⟨hp, g, d, tk, os⟩ := s
  wp_walk using wpAny_loadPart' hl1, wpAny_loadPart' hb1, wpAny_forIn_list _ (fun rest b s' => b.1 = none ∧ ∃ i, rest = (items.toList.zip items2.toList).drop i ∧ i ≤ min items.size items2.size ∧ (∀ j, j < i → e j = true) ∧ I s') _
  case turn =>
    rintro ⟨y, x⟩ rest b s' ⟨hb', i, hz, hi, hall, hI⟩
    have hlt : i < (items.toList.zip items2.toList).length := by
      rcases Nat.lt_or_ge i (items.toList.zip items2.toList).length with h' | h'
      · exact h'
      · rw [List.drop_of_length_le h'] at hz; cases hz
    have h12 : i < min items.size items2.size := hZ ▸ hlt
    have h1 : i < items.size := by omega
    have h2 : i < items2.size := by omega
    rw [List.drop_eq_getElem_cons hlt] at hz
    injection hz with hyx hrest
    have hy : y = items[i] := by have := congrArg Prod.fst hyx; simpa using this
    have hx : x = items2[i] := by have := congrArg Prod.snd hyx; simpa using this
    subst hy hx
    refine wpAny_bind (wpAny_mono (turn i h1 h2 s' hI hall) (fun r2 s2 q2 => ?_) fun _ _ x => x)
    obtain ⟨hr, q2⟩ := q2
    cases he2 : e i with
    | true =>
      rw [he2] at hr
      subst hr
      wp_walk
      refine ⟨rfl, i + 1, hrest, by omega, fun j hj => ?_, q2⟩
      by_cases z : j = i
      · rw [z]; exact he2
      · exact hall j (by omega)
    | false =>
      rw [he2] at hr
      subst hr
      have hrf : r = false := by
        rw [he]
        cases z : (List.range (min items.size items2.size)).all e with
        | false => rfl
        | true =>
          have := List.all_eq_true.mp z i (List.mem_range.mpr h12)
          rw [he2] at this
          cases this
      have hR : R (.ok (.ret (.bool false))) s2 := by
        have := fin s2 q2
        rw [hrf] at this
        exact this
      wp_walk
      exact hR
  case fin =>
    rintro ⟨b1, b2⟩ s' ⟨hb', i, hz, hi, hall, hI⟩
    simp only at hb'
    subst hb'
    have hge : min items.size items2.size ≤ i := by
      rcases Nat.lt_or_ge i (items.toList.zip items2.toList).length with h' | h'
      · rw [List.drop_eq_getElem_cons h'] at hz; cases hz
      · exact hZ ▸ h'
    have hi' : i = min items.size items2.size := by omega
    have hrt : r = (items.size == items2.size) := by
      have z : (List.range (min items.size items2.size)).all e = true := by
        rw [List.all_eq_true]
        intro j hj
        exact hall j (by rw [hi']; exact List.mem_range.mp hj)
      rw [he, z, Bool.true_and]
    have hR : R (.ok (.ret (.bool (items.size == items2.size)))) s' := by
      have := fin s' hI
      rw [hrt] at this
      exact this
    wp_walk
    simpa [Builtin.Tuple.tupleCompareSizes] using hR
  case h =>
    exact ⟨rfl, 0, rfl, Nat.zero_le _, (fun j hj => absurd hj (Nat.not_lt_zero _)), h0⟩
end
theorem rc_tupD {prog : Program} {w : World} {A : Around} {E : Value → Shared → Prop} {s : Shared} {l b : Addr} {items items2 : Array Value} {Q : Value → Shared → Prop} (hu : A.units < cLine) (r : Bool) (e : Nat → Bool) (I : Shared → Prop)
    (hl : s.heap.IsTuple l items) (hb : s.heap.IsTuple b items2)
    (turn : ∀ i (h1 : i < items.size) (h2 : i < items2.size) s, I s → (∀ j, j < i → e j = true) → wpAny (model prog w) A.in1 (eqBool items[i] items2[i]) (fun r s' => r = e i ∧ I s') E s)
    (he : r = ((List.range (min items.size items2.size)).all e && (items.size == items2.size)))
    (fin : ∀ s, I s → Q (.bool r) s) (h : I s) : wpAny (model prog w) A (richCompare .Eq (.ref l) (.ref b)) Q E s := by
  obtain ⟨⟨cls, dd, data, sl⟩, ho, hc, n, hd⟩ := id hl
  obtain ⟨⟨cls2, dd2, data2, sl2⟩, ho2, hc2, n2, hd2⟩ := id hb
  simp only at hc hd hc2 hd2
  subst hc hd hc2 hd2
  refine wpAny_richCompare_same_room (op := .Eq) ⟨_, ho, rfl⟩ ⟨_, ho2, rfl⟩ F.slot_tuple_eq (GQ.call_here F.slot_tuple_eq ⟨_, ho, rfl⟩ F.entry_tuple_eq (F.args_tuple_eq_2 _ _) ?_) hu
  exact tuple_eqD (R := wants (fun v s' => v ≠ .notImplemented ∧ Q v s') E) l b items items2 n n2 dd dd2 sl sl2 r e I turn he (fun s' q => ⟨(fun x => nomatch x), fin s' q⟩) ho ho2 h
end
structure SubD (X : Cx) (n : Nat) (A : Around) : Prop where
  room : Rm n A
  fr : A.frames = X.A.frames
theorem SubD.in1 {X : Cx} {n : Nat} {A : Around} (s : SubD X (n + 1) A) : SubD X n A.in1 := ⟨s.room.in1, s.fr⟩
theorem SubD.mono {X : Cx} {n m : Nat} {A : Around} (s : SubD X n A) (h : m ≤ n) : SubD X m A := ⟨s.room.mono h, s.fr⟩
def EqD (X : Cx) (n : Nat) (x y : V) (b : Bool) (H : Hp) : Prop :=
  ∀ (A : Around) (pins : List (Addr × Obj)) (s : Shared) (σ : L2.St) (u v : Value), SubD X n A → L2.Inv X pins σ H s → RelV x u → RelV y v →
    wpAny (model X.prog X.w) A (eqBool u v) (fun r s' => r = b ∧ L2.Inv X pins σ H s') X.xe s
def RcD (X : Cx) (n : Nat) (x y : V) (b : Bool) (H : Hp) : Prop :=
  ∀ (A : Around) (pins : List (Addr × Obj)) (s : Shared) (σ : L2.St) (u v : Value), SubD X n A → L2.Inv X pins σ H s → RelV x u → RelV y v →
    wpAny (model X.prog X.w) A (richCompare .Eq u v) (fun r s' => r = .bool b ∧ L2.Inv X pins σ H s') X.xe s
section
variable {X : Cx} {n m : Nat} {x y : V} {b : Bool} {H : Hp}
theorem EqD.mono (h : EqD X n x y b H) (hn : n ≤ m) : EqD X m x y b H := fun A pins s σ u v sb => h A pins s σ u v (sb.mono hn)
theorem eqD_flat (fx : flatV x = true) (fy : flatV y = true) : EqD X n x y (eqV x y) H := by
  intro A pins s σ u v sb I rx ry
  exact eqAt_V (A := A) (s := s) rx ry fx fy X.prog X.w X.xe _ ⟨rfl, I⟩
theorem RcD.eqD {a c : Addr} (h : RcD X n (.ref a) (.ref c) b H) (hs : a = c → b = true) : EqD X n (.ref a) (.ref c) b H := by
  intro A pins s σ u v sb I rx ry
  cases rx
  cases ry
  by_cases hab : a = c
  · have := hs hab
    subst this
    subst hab
    exact SeqAt.EqAt.same (A := A) (s := s) (.ref a) X.prog X.w X.xe _ ⟨rfl, I⟩
  · refine GQ.eqBool_refG hab (wpAny_mono (h A pins s σ (.ref a) (.ref c) sb I rfl rfl) (fun r s' q => ?_) fun _ _ x => x)
    obtain ⟨hr', q⟩ := q
    exact ⟨b, hr', rfl, q⟩
def AllD (X : Cx) (n : Nat) (xs ys : List V) (e : Nat → Bool) (H : Hp) : Prop := ∀ (i : Nat) x y, (∀ j, j < i → e j = true) → xs[i]? = some x → ys[i]? = some y → EqD X n x y (e i) H
theorem rcD_tup {p q : Addr} {xs ys : List V} {e : Nat → Bool} (hp : H p = some (.tup xs)) (hq : H q = some (.tup ys)) (hs : AllD X n xs ys e H) (hb : b = ((List.range (min xs.length ys.length)).all e && (xs.length == ys.length))) : RcD X (n + 1) (.ref p) (.ref q) b H := by
  intro A pins s σ u v sb I rx ry
  cases rx
  cases ry
  obtain ⟨its, r, e1, z⟩ := I.tuple (SqT.of hp)
  obtain ⟨its2, r2, e2, z2⟩ := I.tuple (SqT.of hq)
  refine rc_tupD (hu0 sb.room) b e (fun s' => L2.Inv X pins σ H s') e1 e2 (fun i h1 h2 s' q hall => ?_) (by rw [hb, List.size_toArray, List.size_toArray, ← r.length, ← r2.length]) (fun s' q => ⟨rfl, q⟩) I
  have g1 : its[i]? = some its.toArray[i] := by
    have h1' : i < its.length := by simpa using h1
    rw [List.getElem?_eq_getElem h1'] <;> simp
  have g2 : its2[i]? = some its2.toArray[i] := by
    have h2' : i < its2.length := by simpa using h2
    rw [List.getElem?_eq_getElem h2'] <;> simp
  have k1 : i < xs.length := by rw [r.length]; simpa using h1
  have k2 : i < ys.length := by rw [r2.length]; simpa using h2
  obtain ⟨u, hu, ru⟩ := r.get (List.getElem?_eq_getElem k1)
  obtain ⟨v, hv, rv⟩ := r2.get (List.getElem?_eq_getElem k2)
  rw [g1] at hu
  rw [g2] at hv
  rw [Option.some.inj hu, Option.some.inj hv]
  exact hs i _ _ hall (List.getElem?_eq_getElem k1) (List.getElem?_eq_getElem k2) A.in1 pins s' σ u v sb.in1 q ru rv
theorem rcD_ins {a c C C2 f dx dy : Addr} {fs gs : List (Str × V)} {k : Nat} {sp : Sp} (hm : Meth X.K C "__eq__" f) (F : FnB X.prog X.w X.K X.mg X.base k f sp) (ha : H a = some (.ins C dx fs)) (hc : H c = some (.ins C2 dy gs)) (hn : notFirst X.K C (.ref C2) = true)
    (hsp : ∀ (Q : VK), Q (.bl b) H → sp [.ref a, .ref c] H Q E0) (hx : Passes (L2.CX X.prog X.w) X E0) : RcD X k (.ref a) (.ref c) b H := by
  intro A pins s σ u v sb I rx ry
  cases rx
  cases ry
  obtain ⟨mA, J, _⟩ := ins_get I.hok ha
  obtain ⟨mB, J', _⟩ := ins_get I.hok hc
  obtain ⟨od, J, _⟩ := J.look
  obtain ⟨od', J', _⟩ := J'.look
  obtain ⟨m, hF⟩ := I.fr
  refine PySem.W.cmp_K (op := .Eq) (tb := .ref C2) (hu0 sb.room) hF I.ok.mod.kin J J'.type hn hm.at_ hm.fn ?_
  have e0 : Env0 X.prog X.w X.K X.mg X.base A X.stack s H := by
    have e := I.env0
    exact ⟨by rw [sb.fr]; exact e.frames, e.mod, e.bs, e.bsz, e.funs, e.frf, e.hok, e.bare⟩
  refine wpAny_mono (wpAny_call (runB (us := [.ref a, .ref c]) (vs := [.ref a, .ref c]) F sb.room e0 hx I (.cons rfl (.cons rfl .nil)) (hsp (fun v H' => v = .bl b ∧ H' = H) ⟨rfl, rfl⟩))) (fun w s' z => ?_) fun _ _ x => x
  obtain ⟨z', H', I', rz, ez, eh⟩ := z
  subst ez
  subst eh
  cases (show w = Value.bool b from rz)
  exact ⟨rfl, I'⟩
def rEqDc (X : Cx) (n : Nat) : R2 := fun x y H Q => ∃ b, RcD X n x y b H ∧ Q (.bl b) H
theorem op_eqDc {j : Nat} (hr : Rm j X.A) (hk : n ≤ j := by decide) : OpR X (compareOp .Eq) (rEqDc X n) := by
  intro pins s σ H x y v u Q I rx ry hq
  obtain ⟨b, d, q⟩ := hq
  show wpAny (model X.prog X.w) X.A (richCompare .Eq v u) (EP X pins σ Q) X.xe s
  refine wpAny_mono (d X.A pins s σ v u ⟨hr.mono hk, rfl⟩ I rx ry) (fun r s' z => ?_) fun _ _ x => x
  obtain ⟨hr', I'⟩ := z
  subst hr'
  exact ⟨.bl b, H, I', rfl, q⟩
end
def tFmtRN (te : TE) : TE := fun σ H Q => te σ H fun x H1 => (x = .non ∧ Q (.str "None") H1) ∨ ∃ i : Int, x = .int i ∧ i.natAbs.log2 < 1920 ∧ Q (.str (toString i)) H1
theorem pe_fmtRN {X : Cx} {e : Expr} {te : TE} {pos : Pos} (he : PE X e te) : PE X (.FormattedValue e 114 none pos) (tFmtRN te) := by
  refine ⟨fun pins s σ H Q I h => ?_⟩
  refine wpAny_FormattedValue_repr (thn (he.run pins s σ H _ I h) fun v s1 hv => ?_)
  obtain ⟨x, H1, I1, r1, q⟩ := hv
  rcases q with ⟨rfl, q⟩ | ⟨i, rfl, hz, q⟩
  · cases r1
    exact pyReprObj_none (wpAny_formatField_str ⟨.str "None", H1, I1.tok _, ⟨_, rfl⟩, q⟩ ⟨.str "None", H1, I1.tok _, ⟨_, rfl⟩, q⟩ (by decide))
  · obtain ⟨t, rfl⟩ := r1
    exact pyReprObj_int hz (wpAny_formatField_str ⟨.str (toString i), H1, I1.tok _, ⟨_, rfl⟩, q⟩ ⟨.str (toString i), H1, I1.tok _, ⟨_, rfl⟩, q⟩ (int_text_fits hz))
theorem pe_exI {ι : Type} {X : Cx} {e : Expr} {t : ι → TE} (h : ∀ i, PE X e (t i)) : PE X e (fun σ H Q => ∃ i, t i σ H Q) := ⟨fun pins s σ H Q I ⟨i, q⟩ => (h i).run pins s σ H Q I q⟩
theorem cr_exI {ι : Type} {X : Cx} {c : Value} {t : ι → List V → Hp → VK → Prop} (h : ∀ i, CallR X c (t i)) : CallR X c (fun vs H Q => ∃ i, t i vs H Q) := by
  intro pins s σ H vs us Q I r q
  obtain ⟨i, q⟩ := q
  exact h i pins s σ H vs us Q I r q
theorem op_exI {ι : Type} {X : Cx} {c : Value → Value → Sem Value} {t : ι → R2} (h : ∀ i, OpR X c (t i)) : OpR X c (fun x y H Q => ∃ i, t i x y H Q) := by
  intro pins s σ H x y v u Q I rx ry q
  obtain ⟨i, q⟩ := q
  exact h i pins s σ H x y v u Q I rx ry q
theorem FnB.none {P : Program} {w : World} {K : Frag} {mg : Str → Option Value} {base : Heap} {k : Nat} {f : Addr} {sp : Sp} (kp : keepIn K (.ref f) = true) (h : ∀ vs H Q E, ¬ sp vs H Q E) : FnB P w K mg base k f sp :=
  ⟨fun A outer s H us vs Q E hr e0 r q => absurd q (h _ _ _ _), kp⟩
/-! the classes of conditions -/
def six : List Str := ["Begins", "Length", "Value", "Both", "Either", "Opposite"]
structure CnF (K : Frag) : Prop where
  rand : ∀ c ∈ six, findIn K (.ref (ga K c)) (dunderR "and") = some none
  ror : ∀ c ∈ six, findIn K (.ref (ga K c)) (dunderR "or") = some none
  first : ∀ c ∈ six, selfFirst K (ga K c) = true
  kit : ∀ c ∈ six, kitOne K (.ref (ga K c)) (.ref (ga K "Condition")) = some true
  sub : ∀ c ∈ six, ∀ c2 ∈ six, c ≠ c2 → mroIn K (ga K c2) (.ref (ga K c)) = some false
def cnB (K : Frag) : Bool := six.all (fun c => eqO (findIn K (.ref (ga K c)) (dunderR "and")) (some none) && (eqO (findIn K (.ref (ga K c)) (dunderR "or")) (some none) && (selfFirst K (ga K c) && (decide (kitOne K (.ref (ga K c)) (.ref (ga K "Condition")) = some true) && six.all (fun c2 => decide (c = c2) || decide (mroIn K (ga K c2) (.ref (ga K c)) = some false))))))
theorem cnB_ok {K : Frag} (h : cnB K = true) : CnF K := by
  have h := List.all_eq_true.mp h
  refine ⟨fun c hc => ?_, fun c hc => ?_, fun c hc => ?_, fun c hc => ?_, fun c hc c2 hc2 ne => ?_⟩ <;> (obtain ⟨h1, hh⟩ := ba (h c hc); obtain ⟨h2, hh⟩ := ba hh; obtain ⟨h3, hh⟩ := ba hh; obtain ⟨h4, h5⟩ := ba hh)
  · exact eqO_ok h1
  · exact eqO_ok h2
  · exact h3
  · exact of_decide_eq_true h4
  · have z := List.all_eq_true.mp h5 c2 hc2
    rcases Bool.or_eq_true_iff.mp z with z | z
    · exact absurd (of_decide_eq_true z) ne
    · exact of_decide_eq_true z
theorem CnF.notFirst {K : Frag} (h : CnF K) {c c2 : Str} (hc : c ∈ six) (hc2 : c2 ∈ six) : PySem.W.notFirst K (ga K c) (.ref (ga K c2)) = true := by
  unfold PySem.W.notFirst
  by_cases e : c = c2
  · subst e
    simp
  · have z := h.sub c hc c2 hc2 e
    show (_ || mroIn K (ga K c2) (.ref (ga K c)) == some false) = true
    rw [z]
    simp
end Ah

namespace k74
open PySem PySem.Spec PyProof.Rows L2 He Ah
local macro_rules | `(tactic| walk_at "st") => `(tactic| repeat (first | refine ⟨_, rfl, ?_⟩ | refine ⟨_, _, rfl, rfl, ?_⟩))
local macro_rules | `(tactic| walk_at "lk") => `(tactic| repeat (first | exact look0 | rw [lookS (by decide +kernel)]))
local macro_rules | `(tactic| walk_at "pf") => `(tactic| repeat (first | rw [putF0] | rw [putF_hit] | rw [putFS (by decide +kernel)]))
local macro_rules | `(tactic| walk_at "nm") => `(tactic| simp only [tRet, tRetN, tSeq, tNext, tAsg, gName, tDrop, tIfS, tTest, tB, tNot, tAnd, tOr, tAndV, tOrV, tNotV, tIf, tC, tCons, tNil, tCB, tCall, tOp, tUn, tChain, rI0, rI, tVar, tSl, tPart, tNoPart, tLst, tTup, gSub, tPar, cxOf, L2.Cx.nox, L2.Cx.wish, L2.start, List.map_cons, List.map_nil, List.length_cons, List.length_nil, List.nil_append, List.cons_append, List.append_nil, Nat.zero_add, Nat.reduceAdd, Nat.reduceSub, Nat.sub_self, Nat.sub_zero, List.replicate_succ, List.replicate_zero, List.getElem?_cons_zero, List.getElem?_cons_succ, List.set_cons_zero, List.set_cons_succ, Option.some.injEq, exists_eq_left, exists_eq_left', exists_eq_right, exists_and_left, decide_eq_true_eq, decide_eq_false_iff_not, Bool.not_eq_true', V.int.injEq, V.bl.injEq, V.str.injEq, V.ref.injEq, List.cons.injEq, and_true, true_and, if_true, if_false, Bool.false_eq_true, Bool.not_true, Bool.not_false, ite_true, ite_false])
def flP : Str := PySem.Challenge.pw_arccursors_k74_conditions.main.file
def top (i : Nat) : Stmt := PySem.Challenge.pw_arccursors_k74_conditions.main.body.getD i (.Pass ⟨0, 0, 0, 0⟩)
abbrev s_is_integer : Stmt := top 9
def g_is_integer : DefG := { ad := glA "is_integer", name := "is_integer", qual := "is_integer", params := defArgs s_is_integer, body := defBody s_is_integer, scope := defScope s_is_integer }
abbrev s_in_range : Stmt := top 10
def g_in_range : DefG := { ad := glA "in_range", name := "in_range", qual := "in_range", params := defArgs s_in_range, body := defBody s_in_range, scope := defScope s_in_range }
abbrev s_check_number : Stmt := top 11
def g_check_number : DefG := { ad := glA "check_number", name := "check_number", qual := "check_number", params := defArgs s_check_number, body := defBody s_check_number, scope := defScope s_check_number }
abbrev s_is_key : Stmt := top 12
def g_is_key : DefG := { ad := glA "is_key", name := "is_key", qual := "is_key", params := defArgs s_is_key, body := defBody s_is_key, scope := defScope s_is_key }
abbrev s_check_key : Stmt := top 13
def g_check_key : DefG := { ad := glA "check_key", name := "check_key", qual := "check_key", params := defArgs s_check_key, body := defBody s_check_key, scope := defScope s_check_key }
abbrev s_check_value : Stmt := top 15
def g_check_value : DefG := { ad := glA "check_value", name := "check_value", qual := "check_value", params := defArgs s_check_value, body := defBody s_check_value, scope := defScope s_check_value }
abbrev s_check_simple : Stmt := top 19
def g_check_simple : DefG := { ad := glA "check_simple", name := "check_simple", qual := "check_simple", params := defArgs s_check_simple, body := defBody s_check_simple, scope := defScope s_check_simple }
abbrev s__law_hand : Stmt := top 27
def g__law_hand : DefG := { ad := glA "_law_hand", name := "_law_hand", qual := "_law_hand", params := defArgs s__law_hand, body := defBody s__law_hand, scope := defScope s__law_hand }
abbrev s__law_draw : Stmt := top 28
def g__law_draw : DefG := { ad := glA "_law_draw", name := "_law_draw", qual := "_law_draw", params := defArgs s__law_draw, body := defBody s__law_draw, scope := defScope s__law_draw }
abbrev s__law_key : Stmt := top 29
def g__law_key : DefG := { ad := glA "_law_key", name := "_law_key", qual := "_law_key", params := defArgs s__law_key, body := defBody s__law_key, scope := defScope s__law_key }
abbrev s__law_condition : Stmt := top 31
def g__law_condition : DefG := { ad := glA "_law_condition", name := "_law_condition", qual := "_law_condition", params := defArgs s__law_condition, body := defBody s__law_condition, scope := defScope s__law_condition }
abbrev s__law_holds : Stmt := top 32
def g__law_holds : DefG := { ad := glA "_law_holds", name := "_law_holds", qual := "_law_holds", params := defArgs s__law_holds, body := defBody s__law_holds, scope := defScope s__law_holds }
abbrev s__law_text : Stmt := top 33
def g__law_text : DefG := { ad := glA "_law_text", name := "_law_text", qual := "_law_text", params := defArgs s__law_text, body := defBody s__law_text, scope := defScope s__law_text }
abbrev s__law_many : Stmt := top 34
def g__law_many : DefG := { ad := glA "_law_many", name := "_law_many", qual := "_law_many", params := defArgs s__law_many, body := defBody s__law_many, scope := defScope s__law_many }
abbrev s__law_again : Stmt := top 35
def g__law_again : DefG := { ad := glA "_law_again", name := "_law_again", qual := "_law_again", params := defArgs s__law_again, body := defBody s__law_again, scope := defScope s__law_again }
abbrev s__law_right : Stmt := top 36
def g__law_right : DefG := { ad := glA "_law_right", name := "_law_right", qual := "_law_right", params := defArgs s__law_right, body := defBody s__law_right, scope := defScope s__law_right }
abbrev s_law : Stmt := top 37
def g_law : DefG := { ad := glA "law", name := "law", qual := "law", params := defArgs s_law, body := defBody s_law, scope := defScope s_law }
abbrev s_InvalidNumber_init : Stmt := inClass (top 1) 0
def g_InvalidNumber_init : DefG := { ad := mtA "InvalidNumber" "__init__", name := "__init__", qual := "InvalidNumber.__init__", params := defArgs s_InvalidNumber_init, body := defBody s_InvalidNumber_init, scope := defScope s_InvalidNumber_init }
abbrev s_InvalidKey_init : Stmt := inClass (top 2) 0
def g_InvalidKey_init : DefG := { ad := mtA "InvalidKey" "__init__", name := "__init__", qual := "InvalidKey.__init__", params := defArgs s_InvalidKey_init, body := defBody s_InvalidKey_init, scope := defScope s_InvalidKey_init }
abbrev s_InvalidText_init : Stmt := inClass (top 3) 0
def g_InvalidText_init : DefG := { ad := mtA "InvalidText" "__init__", name := "__init__", qual := "InvalidText.__init__", params := defArgs s_InvalidText_init, body := defBody s_InvalidText_init, scope := defScope s_InvalidText_init }
abbrev s_InvalidRange_init : Stmt := inClass (top 4) 0
def g_InvalidRange_init : DefG := { ad := mtA "InvalidRange" "__init__", name := "__init__", qual := "InvalidRange.__init__", params := defArgs s_InvalidRange_init, body := defBody s_InvalidRange_init, scope := defScope s_InvalidRange_init }
abbrev s_LimitExceeded_init : Stmt := inClass (top 5) 0
def g_LimitExceeded_init : DefG := { ad := mtA "LimitExceeded" "__init__", name := "__init__", qual := "LimitExceeded.__init__", params := defArgs s_LimitExceeded_init, body := defBody s_LimitExceeded_init, scope := defScope s_LimitExceeded_init }
abbrev s_Condition_init : Stmt := inClass (top 18) 0
def g_Condition_init : DefG := { ad := mtA "Condition" "__init__", name := "__init__", qual := "Condition.__init__", params := defArgs s_Condition_init, body := defBody s_Condition_init, scope := defScope s_Condition_init }
abbrev s_Condition_parts : Stmt := inClass (top 18) 1
def g_Condition_parts : DefG := { ad := gtA "Condition" "parts", name := "parts", qual := "Condition.parts", params := defArgs s_Condition_parts, body := defBody s_Condition_parts, scope := defScope s_Condition_parts }
abbrev s_Condition_call : Stmt := inClass (top 18) 2
def g_Condition_call : DefG := { ad := mtA "Condition" "__call__", name := "__call__", qual := "Condition.__call__", params := defArgs s_Condition_call, body := defBody s_Condition_call, scope := defScope s_Condition_call }
abbrev s_Condition_and : Stmt := inClass (top 18) 4
def g_Condition_and : DefG := { ad := mtA "Condition" "__and__", name := "__and__", qual := "Condition.__and__", params := defArgs s_Condition_and, body := defBody s_Condition_and, scope := defScope s_Condition_and }
abbrev s_Condition_or : Stmt := inClass (top 18) 5
def g_Condition_or : DefG := { ad := mtA "Condition" "__or__", name := "__or__", qual := "Condition.__or__", params := defArgs s_Condition_or, body := defBody s_Condition_or, scope := defScope s_Condition_or }
abbrev s_Condition_invert : Stmt := inClass (top 18) 6
def g_Condition_invert : DefG := { ad := mtA "Condition" "__invert__", name := "__invert__", qual := "Condition.__invert__", params := defArgs s_Condition_invert, body := defBody s_Condition_invert, scope := defScope s_Condition_invert }
abbrev s_Condition_len : Stmt := inClass (top 18) 7
def g_Condition_len : DefG := { ad := mtA "Condition" "__len__", name := "__len__", qual := "Condition.__len__", params := defArgs s_Condition_len, body := defBody s_Condition_len, scope := defScope s_Condition_len }
abbrev s_Condition_eq : Stmt := inClass (top 18) 8
def g_Condition_eq : DefG := { ad := mtA "Condition" "__eq__", name := "__eq__", qual := "Condition.__eq__", params := defArgs s_Condition_eq, body := defBody s_Condition_eq, scope := defScope s_Condition_eq }
abbrev s_Begins_init : Stmt := inClass (top 20) 0
def g_Begins_init : DefG := { ad := mtA "Begins" "__init__", name := "__init__", qual := "Begins.__init__", params := defArgs s_Begins_init, body := defBody s_Begins_init, scope := defScope s_Begins_init, clo := ["__class__"] }
abbrev s_Begins_holds : Stmt := inClass (top 20) 1
def g_Begins_holds : DefG := { ad := mtA "Begins" "holds", name := "holds", qual := "Begins.holds", params := defArgs s_Begins_holds, body := defBody s_Begins_holds, scope := defScope s_Begins_holds }
abbrev s_Begins_repr : Stmt := inClass (top 20) 2
def g_Begins_repr : DefG := { ad := mtA "Begins" "__repr__", name := "__repr__", qual := "Begins.__repr__", params := defArgs s_Begins_repr, body := defBody s_Begins_repr, scope := defScope s_Begins_repr }
abbrev s_Length_init : Stmt := inClass (top 21) 0
def g_Length_init : DefG := { ad := mtA "Length" "__init__", name := "__init__", qual := "Length.__init__", params := defArgs s_Length_init, body := defBody s_Length_init, scope := defScope s_Length_init, clo := ["__class__"] }
abbrev s_Length_holds : Stmt := inClass (top 21) 1
def g_Length_holds : DefG := { ad := mtA "Length" "holds", name := "holds", qual := "Length.holds", params := defArgs s_Length_holds, body := defBody s_Length_holds, scope := defScope s_Length_holds }
abbrev s_Length_repr : Stmt := inClass (top 21) 2
def g_Length_repr : DefG := { ad := mtA "Length" "__repr__", name := "__repr__", qual := "Length.__repr__", params := defArgs s_Length_repr, body := defBody s_Length_repr, scope := defScope s_Length_repr }
abbrev s_Value_init : Stmt := inClass (top 22) 0
def g_Value_init : DefG := { ad := mtA "Value" "__init__", name := "__init__", qual := "Value.__init__", params := defArgs s_Value_init, body := defBody s_Value_init, scope := defScope s_Value_init, clo := ["__class__"] }
abbrev s_Value_holds : Stmt := inClass (top 22) 1
def g_Value_holds : DefG := { ad := mtA "Value" "holds", name := "holds", qual := "Value.holds", params := defArgs s_Value_holds, body := defBody s_Value_holds, scope := defScope s_Value_holds }
abbrev s_Value_repr : Stmt := inClass (top 22) 2
def g_Value_repr : DefG := { ad := mtA "Value" "__repr__", name := "__repr__", qual := "Value.__repr__", params := defArgs s_Value_repr, body := defBody s_Value_repr, scope := defScope s_Value_repr }
abbrev s_Both_init : Stmt := inClass (top 23) 0
def g_Both_init : DefG := { ad := mtA "Both" "__init__", name := "__init__", qual := "Both.__init__", params := defArgs s_Both_init, body := defBody s_Both_init, scope := defScope s_Both_init, clo := ["__class__"] }
abbrev s_Both_holds : Stmt := inClass (top 23) 1
def g_Both_holds : DefG := { ad := mtA "Both" "holds", name := "holds", qual := "Both.holds", params := defArgs s_Both_holds, body := defBody s_Both_holds, scope := defScope s_Both_holds }
abbrev s_Both_repr : Stmt := inClass (top 23) 2
def g_Both_repr : DefG := { ad := mtA "Both" "__repr__", name := "__repr__", qual := "Both.__repr__", params := defArgs s_Both_repr, body := defBody s_Both_repr, scope := defScope s_Both_repr }
abbrev s_Either_init : Stmt := inClass (top 24) 0
def g_Either_init : DefG := { ad := mtA "Either" "__init__", name := "__init__", qual := "Either.__init__", params := defArgs s_Either_init, body := defBody s_Either_init, scope := defScope s_Either_init, clo := ["__class__"] }
abbrev s_Either_holds : Stmt := inClass (top 24) 1
def g_Either_holds : DefG := { ad := mtA "Either" "holds", name := "holds", qual := "Either.holds", params := defArgs s_Either_holds, body := defBody s_Either_holds, scope := defScope s_Either_holds }
abbrev s_Either_repr : Stmt := inClass (top 24) 2
def g_Either_repr : DefG := { ad := mtA "Either" "__repr__", name := "__repr__", qual := "Either.__repr__", params := defArgs s_Either_repr, body := defBody s_Either_repr, scope := defScope s_Either_repr }
abbrev s_Opposite_init : Stmt := inClass (top 25) 0
def g_Opposite_init : DefG := { ad := mtA "Opposite" "__init__", name := "__init__", qual := "Opposite.__init__", params := defArgs s_Opposite_init, body := defBody s_Opposite_init, scope := defScope s_Opposite_init, clo := ["__class__"] }
abbrev s_Opposite_holds : Stmt := inClass (top 25) 1
def g_Opposite_holds : DefG := { ad := mtA "Opposite" "holds", name := "holds", qual := "Opposite.holds", params := defArgs s_Opposite_holds, body := defBody s_Opposite_holds, scope := defScope s_Opposite_holds }
abbrev s_Opposite_repr : Stmt := inClass (top 25) 2
def g_Opposite_repr : DefG := { ad := mtA "Opposite" "__repr__", name := "__repr__", qual := "Opposite.__repr__", params := defArgs s_Opposite_repr, body := defBody s_Opposite_repr, scope := defScope s_Opposite_repr }
structure Txt (K : Frag) (mg : Str → Option Value) : Prop where
  d_is_integer : Stands K g_is_integer
  d_in_range : Stands K g_in_range
  d_check_number : Stands K g_check_number
  d_is_key : Stands K g_is_key
  d_check_key : Stands K g_check_key
  d_check_value : Stands K g_check_value
  d_check_simple : Stands K g_check_simple
  d__law_hand : Stands K g__law_hand
  d__law_draw : Stands K g__law_draw
  d__law_key : Stands K g__law_key
  d__law_condition : Stands K g__law_condition
  d__law_holds : Stands K g__law_holds
  d__law_text : Stands K g__law_text
  d__law_many : Stands K g__law_many
  d__law_again : Stands K g__law_again
  d__law_right : Stands K g__law_right
  d_law : Stands K g_law
  d_InvalidNumber_init : Stands K g_InvalidNumber_init
  d_InvalidKey_init : Stands K g_InvalidKey_init
  d_InvalidText_init : Stands K g_InvalidText_init
  d_InvalidRange_init : Stands K g_InvalidRange_init
  d_LimitExceeded_init : Stands K g_LimitExceeded_init
  d_Condition_init : Stands K g_Condition_init
  d_Condition_parts : Stands K g_Condition_parts
  d_Condition_call : Stands K g_Condition_call
  d_Condition_and : Stands K g_Condition_and
  d_Condition_or : Stands K g_Condition_or
  d_Condition_invert : Stands K g_Condition_invert
  d_Condition_len : Stands K g_Condition_len
  d_Condition_eq : Stands K g_Condition_eq
  d_Begins_init : StandsC K g_Begins_init
  d_Begins_holds : Stands K g_Begins_holds
  d_Begins_repr : Stands K g_Begins_repr
  d_Length_init : StandsC K g_Length_init
  d_Length_holds : Stands K g_Length_holds
  d_Length_repr : Stands K g_Length_repr
  d_Value_init : StandsC K g_Value_init
  d_Value_holds : Stands K g_Value_holds
  d_Value_repr : Stands K g_Value_repr
  d_Both_init : StandsC K g_Both_init
  d_Both_holds : Stands K g_Both_holds
  d_Both_repr : Stands K g_Both_repr
  d_Either_init : StandsC K g_Either_init
  d_Either_holds : Stands K g_Either_holds
  d_Either_repr : Stands K g_Either_repr
  d_Opposite_init : StandsC K g_Opposite_init
  d_Opposite_holds : Stands K g_Opposite_holds
  d_Opposite_repr : Stands K g_Opposite_repr
  m_is_integer : mg "is_integer" = some (.ref (ga K "is_integer"))
  m_in_range : mg "in_range" = some (.ref (ga K "in_range"))
  m_check_number : mg "check_number" = some (.ref (ga K "check_number"))
  m_is_key : mg "is_key" = some (.ref (ga K "is_key"))
  m_check_key : mg "check_key" = some (.ref (ga K "check_key"))
  m_check_value : mg "check_value" = some (.ref (ga K "check_value"))
  m_check_simple : mg "check_simple" = some (.ref (ga K "check_simple"))
  m__law_hand : mg "_law_hand" = some (.ref (ga K "_law_hand"))
  m__law_draw : mg "_law_draw" = some (.ref (ga K "_law_draw"))
  m__law_key : mg "_law_key" = some (.ref (ga K "_law_key"))
  m__law_condition : mg "_law_condition" = some (.ref (ga K "_law_condition"))
  m__law_holds : mg "_law_holds" = some (.ref (ga K "_law_holds"))
  m__law_text : mg "_law_text" = some (.ref (ga K "_law_text"))
  m__law_many : mg "_law_many" = some (.ref (ga K "_law_many"))
  m__law_again : mg "_law_again" = some (.ref (ga K "_law_again"))
  m__law_right : mg "_law_right" = some (.ref (ga K "_law_right"))
  m_law : mg "law" = some (.ref (ga K "law"))
  m_InvalidNumber : mg "InvalidNumber" = some (.ref (ga K "InvalidNumber"))
  m_InvalidKey : mg "InvalidKey" = some (.ref (ga K "InvalidKey"))
  m_InvalidText : mg "InvalidText" = some (.ref (ga K "InvalidText"))
  m_InvalidRange : mg "InvalidRange" = some (.ref (ga K "InvalidRange"))
  m_LimitExceeded : mg "LimitExceeded" = some (.ref (ga K "LimitExceeded"))
  m_Condition : mg "Condition" = some (.ref (ga K "Condition"))
  m_Begins : mg "Begins" = some (.ref (ga K "Begins"))
  c_Begins : Cls K (ga K "Begins")
  k_Begins : Mk K (ga K "Begins") (ma K (ga K "Begins") "__init__")
  n_Begins_own_shape : NoAttr K (ga K "Begins") "own_shape"
  n_Begins_own_simple : NoAttr K (ga K "Begins") "own_simple"
  e_Begins_holds : Meth K (ga K "Begins") "holds" (ma K (ga K "Begins") "holds")
  e_Begins_repr : Meth K (ga K "Begins") "__repr__" (ma K (ga K "Begins") "__repr__")
  e_Begins_call : Meth K (ga K "Begins") "__call__" (ma K (ga K "Begins") "__call__")
  e_Begins_and : Meth K (ga K "Begins") "__and__" (ma K (ga K "Begins") "__and__")
  e_Begins_or : Meth K (ga K "Begins") "__or__" (ma K (ga K "Begins") "__or__")
  e_Begins_invert : Meth K (ga K "Begins") "__invert__" (ma K (ga K "Begins") "__invert__")
  e_Begins_len : Meth K (ga K "Begins") "__len__" (ma K (ga K "Begins") "__len__")
  e_Begins_eq : Meth K (ga K "Begins") "__eq__" (ma K (ga K "Begins") "__eq__")
  m_Length : mg "Length" = some (.ref (ga K "Length"))
  c_Length : Cls K (ga K "Length")
  k_Length : Mk K (ga K "Length") (ma K (ga K "Length") "__init__")
  n_Length_own_shape : NoAttr K (ga K "Length") "own_shape"
  n_Length_own_simple : NoAttr K (ga K "Length") "own_simple"
  e_Length_holds : Meth K (ga K "Length") "holds" (ma K (ga K "Length") "holds")
  e_Length_repr : Meth K (ga K "Length") "__repr__" (ma K (ga K "Length") "__repr__")
  e_Length_call : Meth K (ga K "Length") "__call__" (ma K (ga K "Length") "__call__")
  e_Length_and : Meth K (ga K "Length") "__and__" (ma K (ga K "Length") "__and__")
  e_Length_or : Meth K (ga K "Length") "__or__" (ma K (ga K "Length") "__or__")
  e_Length_invert : Meth K (ga K "Length") "__invert__" (ma K (ga K "Length") "__invert__")
  e_Length_len : Meth K (ga K "Length") "__len__" (ma K (ga K "Length") "__len__")
  e_Length_eq : Meth K (ga K "Length") "__eq__" (ma K (ga K "Length") "__eq__")
  m_Value : mg "Value" = some (.ref (ga K "Value"))
  c_Value : Cls K (ga K "Value")
  k_Value : Mk K (ga K "Value") (ma K (ga K "Value") "__init__")
  n_Value_own_shape : NoAttr K (ga K "Value") "own_shape"
  n_Value_own_simple : NoAttr K (ga K "Value") "own_simple"
  e_Value_holds : Meth K (ga K "Value") "holds" (ma K (ga K "Value") "holds")
  e_Value_repr : Meth K (ga K "Value") "__repr__" (ma K (ga K "Value") "__repr__")
  e_Value_call : Meth K (ga K "Value") "__call__" (ma K (ga K "Value") "__call__")
  e_Value_and : Meth K (ga K "Value") "__and__" (ma K (ga K "Value") "__and__")
  e_Value_or : Meth K (ga K "Value") "__or__" (ma K (ga K "Value") "__or__")
  e_Value_invert : Meth K (ga K "Value") "__invert__" (ma K (ga K "Value") "__invert__")
  e_Value_len : Meth K (ga K "Value") "__len__" (ma K (ga K "Value") "__len__")
  e_Value_eq : Meth K (ga K "Value") "__eq__" (ma K (ga K "Value") "__eq__")
  m_Both : mg "Both" = some (.ref (ga K "Both"))
  c_Both : Cls K (ga K "Both")
  k_Both : Mk K (ga K "Both") (ma K (ga K "Both") "__init__")
  n_Both_own_shape : NoAttr K (ga K "Both") "own_shape"
  n_Both_own_simple : NoAttr K (ga K "Both") "own_simple"
  e_Both_holds : Meth K (ga K "Both") "holds" (ma K (ga K "Both") "holds")
  e_Both_repr : Meth K (ga K "Both") "__repr__" (ma K (ga K "Both") "__repr__")
  e_Both_call : Meth K (ga K "Both") "__call__" (ma K (ga K "Both") "__call__")
  e_Both_and : Meth K (ga K "Both") "__and__" (ma K (ga K "Both") "__and__")
  e_Both_or : Meth K (ga K "Both") "__or__" (ma K (ga K "Both") "__or__")
  e_Both_invert : Meth K (ga K "Both") "__invert__" (ma K (ga K "Both") "__invert__")
  e_Both_len : Meth K (ga K "Both") "__len__" (ma K (ga K "Both") "__len__")
  e_Both_eq : Meth K (ga K "Both") "__eq__" (ma K (ga K "Both") "__eq__")
  m_Either : mg "Either" = some (.ref (ga K "Either"))
  c_Either : Cls K (ga K "Either")
  k_Either : Mk K (ga K "Either") (ma K (ga K "Either") "__init__")
  n_Either_own_shape : NoAttr K (ga K "Either") "own_shape"
  n_Either_own_simple : NoAttr K (ga K "Either") "own_simple"
  e_Either_holds : Meth K (ga K "Either") "holds" (ma K (ga K "Either") "holds")
  e_Either_repr : Meth K (ga K "Either") "__repr__" (ma K (ga K "Either") "__repr__")
  e_Either_call : Meth K (ga K "Either") "__call__" (ma K (ga K "Either") "__call__")
  e_Either_and : Meth K (ga K "Either") "__and__" (ma K (ga K "Either") "__and__")
  e_Either_or : Meth K (ga K "Either") "__or__" (ma K (ga K "Either") "__or__")
  e_Either_invert : Meth K (ga K "Either") "__invert__" (ma K (ga K "Either") "__invert__")
  e_Either_len : Meth K (ga K "Either") "__len__" (ma K (ga K "Either") "__len__")
  e_Either_eq : Meth K (ga K "Either") "__eq__" (ma K (ga K "Either") "__eq__")
  m_Opposite : mg "Opposite" = some (.ref (ga K "Opposite"))
  c_Opposite : Cls K (ga K "Opposite")
  k_Opposite : Mk K (ga K "Opposite") (ma K (ga K "Opposite") "__init__")
  n_Opposite_own_shape : NoAttr K (ga K "Opposite") "own_shape"
  n_Opposite_own_simple : NoAttr K (ga K "Opposite") "own_simple"
  e_Opposite_holds : Meth K (ga K "Opposite") "holds" (ma K (ga K "Opposite") "holds")
  e_Opposite_repr : Meth K (ga K "Opposite") "__repr__" (ma K (ga K "Opposite") "__repr__")
  e_Opposite_call : Meth K (ga K "Opposite") "__call__" (ma K (ga K "Opposite") "__call__")
  e_Opposite_and : Meth K (ga K "Opposite") "__and__" (ma K (ga K "Opposite") "__and__")
  e_Opposite_or : Meth K (ga K "Opposite") "__or__" (ma K (ga K "Opposite") "__or__")
  e_Opposite_invert : Meth K (ga K "Opposite") "__invert__" (ma K (ga K "Opposite") "__invert__")
  e_Opposite_len : Meth K (ga K "Opposite") "__len__" (ma K (ga K "Opposite") "__len__")
  e_Opposite_eq : Meth K (ga K "Opposite") "__eq__" (ma K (ga K "Opposite") "__eq__")
  v_MAX_LENGTH : ∃ t, mg "MAX_LENGTH" = some (.int 20 t)
  v_CHARACTERS : ∃ t, mg "CHARACTERS" = some (.str "abcdefghijklmnopqrstuvwxyz0123456789" t)
  v_MOST_SIMPLE : ∃ t, mg "MOST_SIMPLE" = some (.int 30 t)
  b_all : mg "all" = none
  b_bool : mg "bool" = none
  b_int : mg "int" = none
  b_isinstance : mg "isinstance" = none
  b_len : mg "len" = none
  b_max : mg "max" = none
  b_min : mg "min" = none
  b_range : mg "range" = none
  b_repr : mg "repr" = none
  b_str : mg "str" = none
  b_sum : mg "sum" = none
  b_super : mg "super" = none
  r_InvalidNumber : ExcT K mg "InvalidNumber"
  xn_InvalidNumber_value : PySem.W.findIn K (.ref (ga K "InvalidNumber")) "value" = some none
  r_InvalidKey : ExcT K mg "InvalidKey"
  xn_InvalidKey_value : PySem.W.findIn K (.ref (ga K "InvalidKey")) "value" = some none
  r_InvalidText : ExcT K mg "InvalidText"
  xn_InvalidText_value : PySem.W.findIn K (.ref (ga K "InvalidText")) "value" = some none
  r_InvalidRange : ExcT K mg "InvalidRange"
  xn_InvalidRange_least : PySem.W.findIn K (.ref (ga K "InvalidRange")) "least" = some none
  xn_InvalidRange_most : PySem.W.findIn K (.ref (ga K "InvalidRange")) "most" = some none
  r_LimitExceeded : ExcT K mg "LimitExceeded"
  xn_LimitExceeded_limit : PySem.W.findIn K (.ref (ga K "LimitExceeded")) "limit" = some none
  q_Condition : OwnK K (ga K "Condition")
  y_Condition_call : PySem.W.fnIn K (ma K (ga K "Condition") "__call__") = true
  p_Begins_parts : PropOf K (ga K "Begins") "parts" (ma K (ga K "Begins") "parts") (gtA "Begins" "parts" K)
  ip_Begins_parts : gtA "Begins" "parts" K = gtA "Condition" "parts" K
  ie_Begins_call : mtA "Begins" "__call__" K = mtA "Condition" "__call__" K
  ie_Begins_and : mtA "Begins" "__and__" K = mtA "Condition" "__and__" K
  ie_Begins_or : mtA "Begins" "__or__" K = mtA "Condition" "__or__" K
  ie_Begins_invert : mtA "Begins" "__invert__" K = mtA "Condition" "__invert__" K
  ie_Begins_len : mtA "Begins" "__len__" K = mtA "Condition" "__len__" K
  ie_Begins_eq : mtA "Begins" "__eq__" K = mtA "Condition" "__eq__" K
  o_Begins : OwnC K (ga K "Begins")
  f_Begins : ∀ T ∈ all7, PySem.W.notFirst K (ga K "Begins") (.type T) = true
  x_Begins_ne : NoNe K (ga K "Begins")
  p_Length_parts : PropOf K (ga K "Length") "parts" (ma K (ga K "Length") "parts") (gtA "Length" "parts" K)
  ip_Length_parts : gtA "Length" "parts" K = gtA "Condition" "parts" K
  ie_Length_call : mtA "Length" "__call__" K = mtA "Condition" "__call__" K
  ie_Length_and : mtA "Length" "__and__" K = mtA "Condition" "__and__" K
  ie_Length_or : mtA "Length" "__or__" K = mtA "Condition" "__or__" K
  ie_Length_invert : mtA "Length" "__invert__" K = mtA "Condition" "__invert__" K
  ie_Length_len : mtA "Length" "__len__" K = mtA "Condition" "__len__" K
  ie_Length_eq : mtA "Length" "__eq__" K = mtA "Condition" "__eq__" K
  o_Length : OwnC K (ga K "Length")
  f_Length : ∀ T ∈ all7, PySem.W.notFirst K (ga K "Length") (.type T) = true
  x_Length_ne : NoNe K (ga K "Length")
  p_Value_parts : PropOf K (ga K "Value") "parts" (ma K (ga K "Value") "parts") (gtA "Value" "parts" K)
  ip_Value_parts : gtA "Value" "parts" K = gtA "Condition" "parts" K
  ie_Value_call : mtA "Value" "__call__" K = mtA "Condition" "__call__" K
  ie_Value_and : mtA "Value" "__and__" K = mtA "Condition" "__and__" K
  ie_Value_or : mtA "Value" "__or__" K = mtA "Condition" "__or__" K
  ie_Value_invert : mtA "Value" "__invert__" K = mtA "Condition" "__invert__" K
  ie_Value_len : mtA "Value" "__len__" K = mtA "Condition" "__len__" K
  ie_Value_eq : mtA "Value" "__eq__" K = mtA "Condition" "__eq__" K
  o_Value : OwnC K (ga K "Value")
  f_Value : ∀ T ∈ all7, PySem.W.notFirst K (ga K "Value") (.type T) = true
  x_Value_ne : NoNe K (ga K "Value")
  p_Both_parts : PropOf K (ga K "Both") "parts" (ma K (ga K "Both") "parts") (gtA "Both" "parts" K)
  ip_Both_parts : gtA "Both" "parts" K = gtA "Condition" "parts" K
  ie_Both_call : mtA "Both" "__call__" K = mtA "Condition" "__call__" K
  ie_Both_and : mtA "Both" "__and__" K = mtA "Condition" "__and__" K
  ie_Both_or : mtA "Both" "__or__" K = mtA "Condition" "__or__" K
  ie_Both_invert : mtA "Both" "__invert__" K = mtA "Condition" "__invert__" K
  ie_Both_len : mtA "Both" "__len__" K = mtA "Condition" "__len__" K
  ie_Both_eq : mtA "Both" "__eq__" K = mtA "Condition" "__eq__" K
  o_Both : OwnC K (ga K "Both")
  f_Both : ∀ T ∈ all7, PySem.W.notFirst K (ga K "Both") (.type T) = true
  x_Both_ne : NoNe K (ga K "Both")
  p_Either_parts : PropOf K (ga K "Either") "parts" (ma K (ga K "Either") "parts") (gtA "Either" "parts" K)
  ip_Either_parts : gtA "Either" "parts" K = gtA "Condition" "parts" K
  ie_Either_call : mtA "Either" "__call__" K = mtA "Condition" "__call__" K
  ie_Either_and : mtA "Either" "__and__" K = mtA "Condition" "__and__" K
  ie_Either_or : mtA "Either" "__or__" K = mtA "Condition" "__or__" K
  ie_Either_invert : mtA "Either" "__invert__" K = mtA "Condition" "__invert__" K
  ie_Either_len : mtA "Either" "__len__" K = mtA "Condition" "__len__" K
  ie_Either_eq : mtA "Either" "__eq__" K = mtA "Condition" "__eq__" K
  o_Either : OwnC K (ga K "Either")
  f_Either : ∀ T ∈ all7, PySem.W.notFirst K (ga K "Either") (.type T) = true
  x_Either_ne : NoNe K (ga K "Either")
  p_Opposite_parts : PropOf K (ga K "Opposite") "parts" (ma K (ga K "Opposite") "parts") (gtA "Opposite" "parts" K)
  ip_Opposite_parts : gtA "Opposite" "parts" K = gtA "Condition" "parts" K
  ie_Opposite_call : mtA "Opposite" "__call__" K = mtA "Condition" "__call__" K
  ie_Opposite_and : mtA "Opposite" "__and__" K = mtA "Condition" "__and__" K
  ie_Opposite_or : mtA "Opposite" "__or__" K = mtA "Condition" "__or__" K
  ie_Opposite_invert : mtA "Opposite" "__invert__" K = mtA "Condition" "__invert__" K
  ie_Opposite_len : mtA "Opposite" "__len__" K = mtA "Condition" "__len__" K
  ie_Opposite_eq : mtA "Opposite" "__eq__" K = mtA "Condition" "__eq__" K
  o_Opposite : OwnC K (ga K "Opposite")
  f_Opposite : ∀ T ∈ all7, PySem.W.notFirst K (ga K "Opposite") (.type T) = true
  x_Opposite_ne : NoNe K (ga K "Opposite")
  su_Begins_init : SupOk K flP (ga K "Begins") (mtA "Condition" "__init__" K) (g_Begins_init.ad K) (ccK K (g_Begins_init.ad K)) (codeA K (g_Begins_init.ad K)) (CodeV K (g_Begins_init.ad K)) g_Begins_init
  su_Length_init : SupOk K flP (ga K "Length") (mtA "Condition" "__init__" K) (g_Length_init.ad K) (ccK K (g_Length_init.ad K)) (codeA K (g_Length_init.ad K)) (CodeV K (g_Length_init.ad K)) g_Length_init
  su_Value_init : SupOk K flP (ga K "Value") (mtA "Condition" "__init__" K) (g_Value_init.ad K) (ccK K (g_Value_init.ad K)) (codeA K (g_Value_init.ad K)) (CodeV K (g_Value_init.ad K)) g_Value_init
  su_Both_init : SupOk K flP (ga K "Both") (mtA "Condition" "__init__" K) (g_Both_init.ad K) (ccK K (g_Both_init.ad K)) (codeA K (g_Both_init.ad K)) (CodeV K (g_Both_init.ad K)) g_Both_init
  su_Either_init : SupOk K flP (ga K "Either") (mtA "Condition" "__init__" K) (g_Either_init.ad K) (ccK K (g_Either_init.ad K)) (codeA K (g_Either_init.ad K)) (CodeV K (g_Either_init.ad K)) g_Either_init
  su_Opposite_init : SupOk K flP (ga K "Opposite") (mtA "Condition" "__init__" K) (g_Opposite_init.ad K) (ccK K (g_Opposite_init.ad K)) (codeA K (g_Opposite_init.ad K)) (CodeV K (g_Opposite_init.ad K)) g_Opposite_init
  cn : CnF K
def tf : List (Frag → Addr) := []
def TL (K : Frag) : List (Addr × Str) := []
structure TxtP (P : Program) (K : Frag) (mg : Str → Option Value) : Prop extends Txt K mg where
  ip : IsP flP P
instance {P :  Program} {K : Frag} {mg : Str → Option Value} : CoeOut (TxtP P K mg) (Txt K mg) := ⟨TxtP.toTxt⟩

def sp_is_integer (K : Frag) : Sp := fun vs H Q _ => ∃ x k, vs = [x] ∧ Is K H x k ∧ Q (.bl (k.isT "int" && !k.isT "bool")) H
theorem sc_is_integer : FnScope ["value"] ["value"] (defScope s_is_integer) := ⟨rfl, rfl, rfl, by decide +kernel, rfl, by decide +kernel, by decide +kernel⟩
theorem ok_is_integer {P : Program} {w : World} {K : Frag} {mg : Str → Option Value} {base : Heap} (T : TxtP P K mg) : FnB P w K mg base 1 (glA "is_integer" K) (sp_is_integer K) := by
  refine okD (N := ["value"]) (ps := ["value"]) (k := 0) (d := g_is_integer) T.d_is_integer rfl sc_is_integer (fun vs H Q E h => ?_) (fun _ _ _ _ _ _ us hl => match us, hl with | [_], _ => rfl) (fun A outer s H vs Q E hr h => ?_)
  · obtain ⟨x, k, rfl, hx, q⟩ := h
    rfl
  · have hu := hr.hu
    obtain ⟨x, k, rfl, hx, q⟩ := h
    refine ⟨_, PSs.nox ((pss_one (ps_ret (pe_and (pe_callB call_isi (by rfl) T.b_isinstance (by decide +kernel) (pa_cons (pv 0) (pa_cons (pe_bltn (v := .ty "int") (u := .type "int") (by rfl) T.b_int (by decide +kernel) rfl) pa_nil))) (pe_one (pe_not (pe_callB call_isi (by rfl) T.b_isinstance (by decide +kernel) (pa_cons (pv 0) (pa_cons (pe_bltn (v := .ty "bool") (u := .type "bool") (by rfl) T.b_bool (by decide +kernel) rfl) pa_nil))))))))), ?_⟩
    walk_at "nm"
    refine isi "int" hx ?_
    walk_at "nm"
    cases e : k.isT "int" with
    | false =>
      rw [e] at q
      exact iteF q
    | true =>
      rw [e] at q
      refine iteT ?_
      exact isi "bool" hx ⟨_, rfl, q⟩

def sp_in_range (K : Frag) : Sp := fun vs H Q _ => ∃ x k a b, vs = [x, .int a, .int b] ∧ Is K H x k ∧ Q (.bl (k.within a b)) H
theorem sc_in_range : FnScope ["value", "least", "most"] ["value", "least", "most"] (defScope s_in_range) := ⟨rfl, rfl, rfl, by decide +kernel, rfl, by decide +kernel, by decide +kernel⟩
theorem ok_in_range {P : Program} {w : World} {K : Frag} {mg : Str → Option Value} {base : Heap} (T : TxtP P K mg) : FnB P w K mg base 2 (glA "in_range" K) (sp_in_range K) := by
  refine okD (N := ["value", "least", "most"]) (ps := ["value", "least", "most"]) (k := 1) (d := g_in_range) T.d_in_range rfl sc_in_range (fun vs H Q E h => ?_) (fun _ _ _ _ _ _ us hl => match us, hl with | [_, _, _], _ => rfl) (fun A outer s H vs Q E hr h => ?_)
  · obtain ⟨x, k, a, b, rfl, hx, q⟩ := h
    rfl
  · have hu := hr.hu
    obtain ⟨x, k, a, b, rfl, hx, q⟩ := h
    refine ⟨_, PSs.nox ((pss_one (ps_ret (pe_and (pe_cF (ok_is_integer (K := K) T) hr T.m_is_integer passL (pa_cons (pv 0) pa_nil)) (pe_one (pe_chain op_le op_le (pv 1) (pv 0) (pv 2))))))), ?_⟩
    walk_at "st"
    refine ⟨x, k, rfl, hx, ?_⟩
    walk_at "st"
    cases hx with
    | int i =>
      refine iteT ?_
      walk_at "st"
      by_cases h : a ≤ i
      · rw [decide_eq_true h]
        refine iteT ?_
        walk_at "st"
        have e : (Kn.int i).within a b = decide (i ≤ b) := by simp [Kn.within, h]
        rw [e] at q
        exact q
      · rw [decide_eq_false h]
        have e : (Kn.int i).within a b = false := by simp [Kn.within, h]
        rw [e] at q
        exact iteF q
    | _ => exact iteF q

def sp_is_key (K : Frag) : Sp := fun vs H Q _ => ∃ x k, vs = [x] ∧ Is K H x k ∧ k.small ∧ ∀ H', Same H H' → Q (.bl k.isKey) H'
theorem sc_is_key : FnScope ["value", "sign"] ["value"] (defScope s_is_key) := ⟨rfl, rfl, rfl, by decide +kernel, rfl, by decide +kernel, by decide +kernel⟩
theorem ok_is_key {P : Program} {w : World} {K : Frag} {mg : Str → Option Value} {base : Heap} (T : TxtP P K mg) : FnB P w K mg base 1 (glA "is_key" K) (sp_is_key K) := by
  refine okD (N := ["value", "sign"]) (ps := ["value"]) (k := 0) (d := g_is_key) T.d_is_key rfl sc_is_key (fun vs H Q E h => ?_) (fun _ _ _ _ _ _ us hl => match us, hl with | [_], _ => rfl) (fun A outer s H vs Q E hr h => ?_)
  · obtain ⟨x, k, rfl, hx, hs, q⟩ := h
    rfl
  · have hu := hr.hu
    obtain ⟨x, k, rfl, hx, hs, q⟩ := h
    refine ⟨_, PSs.nox ((pss_cons (ps_if (PW.pt (pw_or (pt_not (pt_val (pe_callB call_isi (by rfl) T.b_isinstance (by decide +kernel) (pa_cons (pv 0) (pa_cons (pe_bltn (v := .ty "str") (u := .type "str") (by rfl) T.b_str (by decide +kernel) rfl) pa_nil))))) (pw_or1 (pt_not (pt_chain op_le op_le pe_int (pe_callB call_len_str (by rfl) T.b_len (by decide +kernel) (pa_cons (pv 0) pa_nil)) (pe_gc (by rfl) (gint T.v_MAX_LENGTH)))))))
        (pss_one (ps_ret pe_bl))
        pss_nil)
      (pss_one (ps_ret (pe_callB (cr_all rfl) (by rfl) T.b_all (by decide +kernel) (pa_cons (pe_lc (own := [("sign", 1)]) (g := gName 1) rfl sc_is_key.nd (pi_str (pv 0)) (blkOk_by (N := ["value", "sign"]) (sc := defScope s_is_key) (by decide +kernel)) (fun _ _ _ _ _ => pg_name (i := 1) sc_is_key.nd rfl (Or.inl rfl)) (fun _ _ _ _ _ => pts_nil) (fun _ _ _ _ _ => (pe_cmpR op_in_sign (pv 1) (pe_gc (by rfl) (gstr T.v_CHARACTERS)) (by rfl)))) pa_nil)))))), ?_⟩
    walk_at "nm"
    refine isi "str" hx ?_
    walk_at "nm"
    cases hx with
    | str z =>
      rw [if_neg (by simp [Kn.isT])]
      have hz : z.length ≤ 1000000 := hs
      refine ⟨z, rfl, (by rw [sizeLine_eq]; omega), ?_⟩
      have q' : ∀ b, b = isKeyL z.cps.toList → ∀ H', Same H H' → Q (.bl b) H' := fun b e H' s => by rw [e]; exact q H' s
      have hl := str_len z
      by_cases h1 : (1 : Int) ≤ (z.length : Int)
      · rw [if_pos h1]
        by_cases h2 : (z.length : Int) ≤ 20
        · rw [if_neg (by omega)]
          refine ⟨_, rfl, _, rfl, fun D hD => ?_⟩
          refine lc_pure walk_str (f := fun i => .bl (keySign (z.cps.toList.getD i 0))) (it := fun i => .str ⟨#[z.cps.toList.getD i 0]⟩) (by rw [cps_len]; omega) hD (fun _ _ => trivial) (fun i H x H' _ y => yStr i H x H' y) (by intro i; rfl) ?_ ?_
          · intro i hi H' Q' s k
            refine ⟨_, rfl, _, rfl, _, rfl, ?_⟩
            have e := chars_mem (z.cps.toList.getD i 0)
            unfold chars at e
            rw [e]
            exact k H' (Same.refl _)
          · intro H' s hl'
            rw [cps_len, map_getD_range z.cps.toList 0 (fun c => V.bl (keySign c))] at hl'
            refine ⟨D, z.cps.toList.map keySign, rfl, SqL.of (by rw [hl', List.map_map]; rfl), ?_⟩
            refine q' _ ?_ H' s
            unfold isKeyL
            rw [decide_eq_true (by omega), decide_eq_true (by omega), List.all_map]
            rfl
        · rw [if_pos (by omega)]
          refine q' _ ?_ H (Same.refl _)
          unfold isKeyL
          rw [decide_eq_false (p := z.cps.toList.length ≤ 20) (by omega)]
          simp
      · rw [if_neg h1]
        refine q' _ ?_ H (Same.refl _)
        unfold isKeyL
        rw [decide_eq_false (p := 1 ≤ z.cps.toList.length) (by omega)]
        simp
    | _ =>
      rw [if_pos (by simp [Kn.isT])]
      exact q H (Same.refl _)

def sp__law_hand (K : Frag) : Sp := fun vs H Q _ => ∃ (c : Addr) (ns : List Int) (k : Int), vs = [.ref c, .int k] ∧ SqL K H c (ns.map V.int) ∧ ns.length ≤ 1000 ∧ (0 ≤ k ∧ k ≤ 1000) ∧
  ∀ H' p, Same H H' → H p = none → PoolAt H' p → Q (.ref p) H'
theorem sc__law_hand : FnScope ["_law_script", "_law_k", "_law_cell", "_law_seed"] ["_law_script", "_law_k"] (defScope s__law_hand) := ⟨rfl, rfl, rfl, by decide +kernel, rfl, by decide +kernel, by decide +kernel⟩
theorem ok__law_hand {P : Program} {w : World} {K : Frag} {mg : Str → Option Value} {base : Heap} (T : TxtP P K mg) : FnB P w K mg base 1 (glA "_law_hand" K) (sp__law_hand K) := by
  refine okD (N := ["_law_script", "_law_k", "_law_cell", "_law_seed"]) (ps := ["_law_script", "_law_k"]) (k := 0) (d := g__law_hand) T.d__law_hand rfl sc__law_hand (fun vs H Q E h => ?_) (fun _ _ _ _ _ _ us hl => match us, hl with | [_, _], _ => rfl) (fun A outer s H vs Q E hr h => ?_)
  · obtain ⟨c, ns, k, rfl, hc, hl, hk, q⟩ := h
    rfl
  · have hu := hr.hu
    obtain ⟨c, ns, k, rfl, hc, hl, hk, q⟩ := h
    refine ⟨_, PSs.nox ((pss_cons (ps_set (i := 2) sc__law_hand.nd rfl (Or.inl rfl) (pe_ix ix_list (pe_op op_cat (pe_slice sl_list (pv 0) (po_some (pv 1)) (po_some (pe_op op_add (pv 1) pe_int))) (pe_lst (pa_cons pe_int pa_nil))) pe_int (fun _ _ => rfl)))
      (pss_cons (ps_set (i := 3) sc__law_hand.nd rfl (Or.inl rfl) (pe_op op_mod (pe_op op_mul (pe_op op_add (pe_op op_add (pe_op op_mod (pv 2) pe_int) (pe_op op_mul pe_int (pv 1))) pe_int) pe_int) pe_int))
      (pss_one (ps_ret (pe_lst (pa_cons (pe_op op_mul (pe_callTy call_int1 (by rfl) T.b_int (by decide +kernel) (pa_cons (pe_cmpR op_ge (pv 2) (pe_op op_pow pe_int pe_int) (nomark _)) pa_nil)) (pv 2)) (pa_cons (pv 3) pa_nil)))))))), ?_⟩
    walk_at "nm"
    refine ⟨c, _, rfl, hc, fun p1 hp1 => ?_⟩
    obtain ⟨l', el, hl'⟩ := cutV_int ns (some k) (some (k + 1))
    rw [el]
    refine ⟨(by rw [sizeLine_eq]; decide), fun p2 hp2 => ?_⟩
    refine ⟨p1, p2, _, _, rfl, rfl, upd_keep upd_same hp2, upd_same, (by rw [List.length_map, sizeLine_eq]; simp; omega), fun p3 hp3 => ?_⟩
    obtain ⟨v, ev⟩ := head_int l'
    refine ixL (SqL.of upd_same) ev ?_
    refine ⟨v, rfl, by decide, .inl ⟨by decide, by decide⟩, .inr ⟨by decide, by decide⟩, by decide, ⟨by decide, by decide, by decide⟩, v, rfl, .inr ⟨v, rfl, .inl ⟨?_, ?_⟩, ?_⟩⟩
    · split <;> decide
    · split <;> decide
    · refine ⟨(by rw [sizeLine_eq]; decide), fun p hp => ?_⟩
      have s1 : Same H (upd H p1 (.lst (l'.map V.int))) := Same.upd (Same.refl _) hp1
      have s2 := Same.upd (o := .lst [V.int 0]) s1 hp2
      have s3 := Same.upd (o := .lst (l'.map V.int ++ [V.int 0])) s2 hp3
      exact q _ p (Same.upd s3 hp) (s3.free hp) ⟨_, _, upd_same⟩

def sp__law_draw (K : Frag) : Sp := fun vs H Q _ => ∃ (a : Addr) (m : Int), vs = [.ref a, .int m] ∧ PoolAt H a ∧ 0 < m ∧ m < 1073741824 ∧
  ∀ v H', 0 ≤ v → v < m → PoolAt H' a → Ex a H H' → Q (.int v) H'
theorem sc__law_draw : FnScope ["_law_pool", "_law_size", "_law_found"] ["_law_pool", "_law_size"] (defScope s__law_draw) := ⟨rfl, rfl, rfl, by decide +kernel, rfl, by decide +kernel, by decide +kernel⟩
theorem ok__law_draw {P : Program} {w : World} {K : Frag} {mg : Str → Option Value} {base : Heap} (T : TxtP P K mg) : FnB P w K mg base 1 (glA "_law_draw" K) (sp__law_draw K) := by
  refine okD (N := ["_law_pool", "_law_size", "_law_found"]) (ps := ["_law_pool", "_law_size"]) (k := 0) (d := g__law_draw) T.d__law_draw rfl sc__law_draw (fun vs H Q E h => ?_) (fun _ _ _ _ _ _ us hl => match us, hl with | [_, _], _ => rfl) (fun A outer s H vs Q E hr h => ?_)
  · obtain ⟨a, m, rfl, ⟨p, r, ha⟩, m0, m1, q⟩ := h
    rfl
  · have hu := hr.hu
    obtain ⟨a, m, rfl, ⟨p, r, ha⟩, m0, m1, q⟩ := h
    refine ⟨_, PSs.nox ((pss_cons (ps_if (pt_cmpR op_gt (pe_ix ix_list (pv 0) pe_int (fun _ _ => rfl)) pe_int (nomark _))
        (pss_cons (ps_set (i := 2) sc__law_draw.nd rfl (Or.inl rfl) (pe_op op_mod (pe_ix ix_list (pv 0) pe_int (fun _ _ => rfl)) (pv 1)))
        (pss_cons (ps_asg (pe_op op_fdiv (pe_ix ix_list (pv 0) pe_int (fun _ _ => rfl)) (pv 1)) (pg_sub (pv 0) pe_int set_list))
        (pss_one (ps_ret (pv 2)))))
        pss_nil)
      (pss_cons (ps_asg (pe_op op_mod (pe_op op_add (pe_op op_mul (pe_ix ix_list (pv 0) pe_int (fun _ _ => rfl)) pe_int) pe_int) pe_int) (pg_sub (pv 0) pe_int set_list))
      (pss_one (ps_ret (pe_op op_mod (pe_op op_fdiv (pe_op op_mod (pe_op op_mul (pe_ix ix_list (pv 0) pe_int (fun _ _ => rfl)) (pe_ix ix_list (pv 0) pe_int (fun _ _ => rfl))) pe_int) pe_int) (pv 1))))))), ?_⟩
    walk_at "nm"
    refine ixL (SqL.of ha) rfl ⟨_, rfl, ?_⟩
    by_cases hp : 0 < p
    · rw [if_pos hp]
      refine ixL (SqL.of ha) rfl ⟨_, rfl, m0, ?_⟩
      refine ixL (SqL.of ha) rfl ⟨_, rfl, ⟨m0, m1⟩, ?_⟩
      refine setL ha rfl ?_
      exact q _ _ (Int.emod_nonneg _ (Int.ne_of_gt m0)) (Int.emod_lt_of_pos _ m0) ⟨_, _, upd_same⟩ Ex.refl.upd
    · rw [if_neg hp]
      refine ixL (SqL.of ha) rfl ⟨_, rfl, .inr ⟨by decide, by decide⟩, by decide, ?_⟩
      refine setL ha rfl ?_
      have e1 := Int.emod_nonneg (r * 48271 + 11) (show (2147483647 : Int) ≠ 0 by decide)
      have e2 := Int.emod_lt_of_pos (r * 48271 + 11) (show (0 : Int) < 2147483647 by decide)
      refine ixL (i := 1) (v := .int ((r * 48271 + 11) % 2147483647)) (SqL.of upd_same) rfl ?_
      refine ixL (i := 1) (v := .int ((r * 48271 + 11) % 2147483647)) (SqL.of upd_same) rfl ⟨_, rfl, _, rfl, .inl ⟨by omega, by omega⟩, by decide, ⟨by decide, by decide⟩, m0, ?_⟩
      exact q _ _ (Int.emod_nonneg _ (Int.ne_of_gt m0)) (Int.emod_lt_of_pos _ m0) ⟨_, _, upd_same⟩ Ex.refl.upd

theorem sc_InvalidNumber_init : FnScope ["self", "value"] ["self", "value"] (defScope s_InvalidNumber_init) := ⟨rfl, rfl, rfl, by decide +kernel, rfl, by decide +kernel, by decide +kernel⟩
theorem ok_InvalidNumber_init {P : Program} {w : World} {K : Frag} {mg : Str → Option Value} {base : Heap} (T : TxtP P K mg) : FnU P w K mg base 1 (mtA "InvalidNumber" "__init__" K) (spX1 (ga K "InvalidNumber") "value") := by
  refine okU (N := ["self", "value"]) (ps := ["self", "value"]) (k := 0) (d := g_InvalidNumber_init) T.d_InvalidNumber_init rfl sc_InvalidNumber_init (fun vs H Q E h => ?_) (fun _ _ _ _ _ _ us hl => match us, hl with | [_, _], _ => rfl) (fun cdv A outer s H vs Q E hr h => ?_)
  · obtain ⟨a, v0, rfl, hx, q⟩ := h
    rfl
  · obtain ⟨a, v0, rfl, hx, q⟩ := h
    refine ⟨_, PSs.nox (pss_one (ps_stG (pv 0) (pv 1))), ?_⟩
    refine ⟨_, rfl, _, rfl, a, _, rfl, T.r_InvalidNumber.o, T.xn_InvalidNumber_value, .inl ⟨hx, fun dx hd ne => ?_⟩⟩
    exact q dx hd ne

theorem sc_InvalidKey_init : FnScope ["self", "value"] ["self", "value"] (defScope s_InvalidKey_init) := ⟨rfl, rfl, rfl, by decide +kernel, rfl, by decide +kernel, by decide +kernel⟩
theorem ok_InvalidKey_init {P : Program} {w : World} {K : Frag} {mg : Str → Option Value} {base : Heap} (T : TxtP P K mg) : FnU P w K mg base 1 (mtA "InvalidKey" "__init__" K) (spX1 (ga K "InvalidKey") "value") := by
  refine okU (N := ["self", "value"]) (ps := ["self", "value"]) (k := 0) (d := g_InvalidKey_init) T.d_InvalidKey_init rfl sc_InvalidKey_init (fun vs H Q E h => ?_) (fun _ _ _ _ _ _ us hl => match us, hl with | [_, _], _ => rfl) (fun cdv A outer s H vs Q E hr h => ?_)
  · obtain ⟨a, v0, rfl, hx, q⟩ := h
    rfl
  · obtain ⟨a, v0, rfl, hx, q⟩ := h
    refine ⟨_, PSs.nox (pss_one (ps_stG (pv 0) (pv 1))), ?_⟩
    refine ⟨_, rfl, _, rfl, a, _, rfl, T.r_InvalidKey.o, T.xn_InvalidKey_value, .inl ⟨hx, fun dx hd ne => ?_⟩⟩
    exact q dx hd ne

theorem sc_InvalidText_init : FnScope ["self", "value"] ["self", "value"] (defScope s_InvalidText_init) := ⟨rfl, rfl, rfl, by decide +kernel, rfl, by decide +kernel, by decide +kernel⟩
theorem ok_InvalidText_init {P : Program} {w : World} {K : Frag} {mg : Str → Option Value} {base : Heap} (T : TxtP P K mg) : FnU P w K mg base 1 (mtA "InvalidText" "__init__" K) (spX1 (ga K "InvalidText") "value") := by
  refine okU (N := ["self", "value"]) (ps := ["self", "value"]) (k := 0) (d := g_InvalidText_init) T.d_InvalidText_init rfl sc_InvalidText_init (fun vs H Q E h => ?_) (fun _ _ _ _ _ _ us hl => match us, hl with | [_, _], _ => rfl) (fun cdv A outer s H vs Q E hr h => ?_)
  · obtain ⟨a, v0, rfl, hx, q⟩ := h
    rfl
  · obtain ⟨a, v0, rfl, hx, q⟩ := h
    refine ⟨_, PSs.nox (pss_one (ps_stG (pv 0) (pv 1))), ?_⟩
    refine ⟨_, rfl, _, rfl, a, _, rfl, T.r_InvalidText.o, T.xn_InvalidText_value, .inl ⟨hx, fun dx hd ne => ?_⟩⟩
    exact q dx hd ne

theorem sc_InvalidRange_init : FnScope ["self", "least", "most"] ["self", "least", "most"] (defScope s_InvalidRange_init) := ⟨rfl, rfl, rfl, by decide +kernel, rfl, by decide +kernel, by decide +kernel⟩
theorem ok_InvalidRange_init {P : Program} {w : World} {K : Frag} {mg : Str → Option Value} {base : Heap} (T : TxtP P K mg) : FnU P w K mg base 1 (mtA "InvalidRange" "__init__" K) (spX2 (ga K "InvalidRange") "least" "most") := by
  refine okU (N := ["self", "least", "most"]) (ps := ["self", "least", "most"]) (k := 0) (d := g_InvalidRange_init) T.d_InvalidRange_init rfl sc_InvalidRange_init (fun vs H Q E h => ?_) (fun _ _ _ _ _ _ us hl => match us, hl with | [_, _, _], _ => rfl) (fun cdv A outer s H vs Q E hr h => ?_)
  · obtain ⟨a, v0, v1, rfl, hx, q⟩ := h
    rfl
  · obtain ⟨a, v0, v1, rfl, hx, q⟩ := h
    refine ⟨_, PSs.nox (pss_cons (ps_stG (pv 0) (pv 1)) (pss_one (ps_stG (pv 0) (pv 2)))), ?_⟩
    refine ⟨_, rfl, _, rfl, a, _, rfl, T.r_InvalidRange.o, T.xn_InvalidRange_least, .inl ⟨hx, fun dx hd ne => ?_⟩⟩
    refine ⟨_, rfl, _, rfl, a, _, rfl, T.r_InvalidRange.o, T.xn_InvalidRange_most, .inr ⟨dx, _, upd_same, by rw [upd_ne ne, upd_same], by simp, ?_⟩⟩
    exact q dx hd ne

def sp_check_number (K : Frag) : Sp := fun vs H Q E => ∃ x k a b, vs = [x, .int a, .int b] ∧ Is K H x k ∧ (k.within a b = true → Q .non H) ∧ (k.within a b = false → Out1 K E H "InvalidNumber" "value" x)
theorem sc_check_number : FnScope ["value", "least", "most"] ["value", "least", "most"] (defScope s_check_number) := ⟨rfl, rfl, rfl, by decide +kernel, rfl, by decide +kernel, by decide +kernel⟩
theorem ok_check_number {P : Program} {w : World} {K : Frag} {mg : Str → Option Value} {base : Heap} (T : TxtP P K mg) : FnB P w K mg base 3 (glA "check_number" K) (sp_check_number K) := by
  refine okD (N := ["value", "least", "most"]) (ps := ["value", "least", "most"]) (k := 2) (d := g_check_number) T.d_check_number rfl sc_check_number (fun vs H Q E h => ?_) (fun _ _ _ _ _ _ us hl => match us, hl with | [_, _, _], _ => rfl) (fun A outer s H vs Q E hr h => ?_)
  · obtain ⟨x, k, a, b, rfl, hx, q, qe⟩ := h
    rfl
  · have hu := hr.hu
    obtain ⟨x, k, a, b, rfl, hx, q, qe⟩ := h
    refine ⟨_, (pss_one (ps_if (pt_not (pt_val (pe_cF (ok_in_range (K := K) T) hr T.m_in_range passL (pa_cons (pv 0) (pa_cons (pv 1) (pa_cons (pv 2) pa_nil))))))
        (pss_one (ps_raiseC rfl (takes_of rfl rfl rfl rfl) T.r_InvalidNumber (ok_InvalidNumber_init (K := K) T) hr (pa_cons (pv 0) pa_nil)))
        pss_nil)), ?_⟩
    walk_at "nm"
    refine ⟨x, k, a, b, rfl, hx, ?_⟩
    walk_at "nm"
    cases e : k.within a b with
    | true =>
      rw [if_neg (by decide)]
      exact q e
    | false =>
      rw [if_pos rfl]
      exact (qe e).mk fun Q' q' => ⟨_, rfl, q'⟩

def sp_check_key (K : Frag) : Sp := fun vs H Q E => ∃ x k, vs = [x] ∧ Is K H x k ∧ k.small ∧ (k.isKey = true → ∀ H', Same H H' → Q .non H') ∧ (k.isKey = false → Out1 K E H "InvalidKey" "value" x)
theorem sc_check_key : FnScope ["value"] ["value"] (defScope s_check_key) := ⟨rfl, rfl, rfl, by decide +kernel, rfl, by decide +kernel, by decide +kernel⟩
theorem ok_check_key {P : Program} {w : World} {K : Frag} {mg : Str → Option Value} {base : Heap} (T : TxtP P K mg) : FnB P w K mg base 3 (glA "check_key" K) (sp_check_key K) := by
  refine okD (N := ["value"]) (ps := ["value"]) (k := 2) (d := g_check_key) T.d_check_key rfl sc_check_key (fun vs H Q E h => ?_) (fun _ _ _ _ _ _ us hl => match us, hl with | [_], _ => rfl) (fun A outer s H vs Q E hr h => ?_)
  · obtain ⟨x, k, rfl, hx, hs, q, qe⟩ := h
    rfl
  · have hu := hr.hu
    obtain ⟨x, k, rfl, hx, hs, q, qe⟩ := h
    refine ⟨_, (pss_one (ps_if (pt_not (pt_val (pe_cF (ok_is_key (K := K) T) hr T.m_is_key passL (pa_cons (pv 0) pa_nil))))
        (pss_one (ps_raiseC rfl (takes_of rfl rfl rfl rfl) T.r_InvalidKey (ok_InvalidKey_init (K := K) T) hr (pa_cons (pv 0) pa_nil)))
        pss_nil)), ?_⟩
    walk_at "nm"
    refine ⟨x, k, rfl, hx, hs, fun H1 s1 => ?_⟩
    walk_at "nm"
    cases e : k.isKey with
    | true =>
      rw [if_neg (by decide)]
      exact q e H1 s1
    | false =>
      rw [if_pos rfl]
      exact ((qe e).same s1).mk fun Q' q' => ⟨_, rfl, q'⟩

def sp_check_value (K : Frag) : Sp := fun vs H Q E => ∃ x k, vs = [x] ∧ Is K H x k ∧ (k.isInt = true → Q .non H) ∧ (k.isInt = false → Out1 K E H "InvalidNumber" "value" x)
theorem sc_check_value : FnScope ["value"] ["value"] (defScope s_check_value) := ⟨rfl, rfl, rfl, by decide +kernel, rfl, by decide +kernel, by decide +kernel⟩
theorem ok_check_value {P : Program} {w : World} {K : Frag} {mg : Str → Option Value} {base : Heap} (T : TxtP P K mg) : FnB P w K mg base 3 (glA "check_value" K) (sp_check_value K) := by
  refine okD (N := ["value"]) (ps := ["value"]) (k := 2) (d := g_check_value) T.d_check_value rfl sc_check_value (fun vs H Q E h => ?_) (fun _ _ _ _ _ _ us hl => match us, hl with | [_], _ => rfl) (fun A outer s H vs Q E hr h => ?_)
  · obtain ⟨x, k, rfl, hx, q, qe⟩ := h
    rfl
  · have hu := hr.hu
    obtain ⟨x, k, rfl, hx, q, qe⟩ := h
    refine ⟨_, (pss_one (ps_if (pt_not (pt_val (pe_cF (ok_is_integer (K := K) T) hr T.m_is_integer passL (pa_cons (pv 0) pa_nil))))
        (pss_one (ps_raiseC rfl (takes_of rfl rfl rfl rfl) T.r_InvalidNumber (ok_InvalidNumber_init (K := K) T) hr (pa_cons (pv 0) pa_nil)))
        pss_nil)), ?_⟩
    walk_at "nm"
    refine ⟨x, k, rfl, hx, ?_⟩
    rw [isInt_eq]
    walk_at "nm"
    cases e : k.isInt with
    | true =>
      rw [if_neg (by decide)]
      exact q e
    | false =>
      rw [if_pos rfl]
      exact (qe e).mk fun Q' q' => ⟨_, rfl, q'⟩

theorem joinL_one : ∀ l : List Nat, TL.joinL [] (l.map fun c => [c]) = l
  | [] => rfl
  | [c] => rfl
  | c :: d :: r => by
    have ih := joinL_one (d :: r)
    show [c] ++ ([] ++ TL.joinL [] ((d :: r).map fun c => [c])) = _
    rw [ih]
    rfl
theorem join_one (l : List Nat) : (Txt.join (Str.ofString "") (l.map fun c => (⟨#[c]⟩ : Str))).cps.toList = l := by
  have e : l.map (fun c => (⟨#[c]⟩ : Str)) = (l.map fun c => [c]).map SX.S := by
    rw [List.map_map]
    rfl
  have e0 : Str.ofString "" = SX.S [] := rfl
  rw [e, e0, SX.join_S, joinL_one]

def sgL : List Nat := [97, 98, 122, 48, 57, 109]
theorem sg_eq : (Str.ofString "abz09m").cps.toList = sgL := by decide +kernel
theorem sg_len : (Str.ofString "abz09m").length ≤ sizeLine := by decide +kernel
theorem sg_at : ∀ v, v < 6 → ∃ c, sgL[v]? = some c ∧ keySign c = true := by
  intro v hv
  have h : ∀ v, v < 6 → keySign (sgL.getD v 0) = true := by decide +kernel
  refine ⟨sgL.getD v 0, ?_, h v hv⟩
  have : v < sgL.length := hv
  rw [List.getD_eq_getElem?_getD, List.getElem?_eq_getElem this]
  rfl
theorem sg_atI {v : Int} (h0 : 0 ≤ v) (h1 : v < 6) : ∃ c, atI (Str.ofString "abz09m").cps.toList v = some c ∧ keySign c = true := by
  obtain ⟨c, h, k⟩ := sg_at v.toNat (by omega)
  refine ⟨c, ?_, k⟩
  rw [sg_eq, show v = ((v.toNat : Nat) : Int) by omega]
  exact atI_nat h

def sp__law_key (K : Frag) : Sp := fun vs H Q _ => ∃ (a : Addr) (m : Int), vs = [.ref a, .int m] ∧ PoolAt H a ∧ 1 ≤ m ∧ m ≤ 20 ∧ ∀ (z : Str) H', isKeyL z.cps.toList = true → (z.length : Int) ≤ m → PoolAt H' a → Ex a H H' → Q (.str z) H'
theorem sc__law_key : FnScope ["_law_pool", "_law_many_here", "_law_turn"] ["_law_pool", "_law_many_here"] (defScope s__law_key) := ⟨rfl, rfl, rfl, by decide +kernel, rfl, by decide +kernel, by decide +kernel⟩
theorem ok__law_key {P : Program} {w : World} {K : Frag} {mg : Str → Option Value} {base : Heap} (T : TxtP P K mg) : FnB P w K mg base 2 (glA "_law_key" K) (sp__law_key K) := by
  refine okD (N := ["_law_pool", "_law_many_here", "_law_turn"]) (ps := ["_law_pool", "_law_many_here"]) (k := 1) (d := g__law_key) T.d__law_key rfl sc__law_key (fun vs H Q E h => ?_) (fun _ _ _ _ _ _ us hl => match us, hl with | [_, _], _ => rfl) (fun A outer s H vs Q E hr h => ?_)
  · obtain ⟨a, m, rfl, hp, m0, m1, q⟩ := h
    rfl
  · have hu := hr.hu
    obtain ⟨a, m, rfl, hp, m0, m1, q⟩ := h
    refine ⟨_, PSs.nox ((pss_one (ps_ret (pe_join pe_str (pe_lc (own := [("_law_turn", 2)]) (g := gName 2) rfl sc__law_key.nd (pi_range1 (by rfl) T.b_range (pa_cons (pe_op op_add pe_int (pe_cF (ok__law_draw (K := K) T) hr T.m__law_draw passL (pa_cons (pv 0) (pa_cons (pv 1) pa_nil)))) pa_nil)) (blkOk_by (N := ["_law_pool", "_law_many_here", "_law_turn"]) (sc := defScope s__law_key) (by decide +kernel)) (fun _ _ _ _ _ => pg_name (i := 2) sc__law_key.nd rfl (Or.inl rfl)) (fun _ _ _ _ _ => pts_nil) (fun _ _ _ _ _ => (pe_ix ix_str pe_str (pe_cF (ok__law_draw (K := K) T) hr T.m__law_draw passL (pa_cons (pv 0) (pa_cons pe_int pa_nil))) (fun _ _ => rfl)))))))), ?_⟩
    walk_at "nm"
    refine ⟨⟨_, rfl⟩, ?_⟩
    refine ⟨_, rfl, _, rfl, a, m, rfl, hp, by omega, by omega, fun v H1 v0 v1 hp1 x1 => ?_⟩
    refine ⟨_, _, rfl, rfl, 1 + v, rfl, by omega, by omega, fun D hD => ?_⟩
    have hDa : D ≠ a := by
      obtain ⟨p, r, e⟩ := hp1
      exact (ne_of_none e hD).symm
    refine lc_it walk_range (fun i H2 => ∃ l : List Nat, H2 D = some (.lst (l.map fun c => V.str ⟨#[c]⟩)) ∧ l.length = i ∧ l.all keySign = true ∧ PoolAt H2 a ∧ Ex a H H2) ?_ (fun _ _ _ _ => trivial) ?_ ?_
    · obtain ⟨p, r, e⟩ := hp1
      exact ⟨[], upd_same, rfl, rfl, ⟨p, r, upd_keep e hD⟩, x1.new hD⟩
    · rintro i x H2 H3 hi ⟨l, hl, el, ok, hp2, x2⟩ ⟨rfl, rfl⟩
      refine ⟨rfl, ?_⟩
      dsimp only [tYes]
      rw [if_pos rfl]
      refine ⟨_, rfl, a, 6, rfl, hp2, by decide, by decide, fun w H4 w0 w1 hp4 x4 => ?_⟩
      obtain ⟨c, hc, kc⟩ := sg_atI w0 w1
      refine ⟨_, w, c, rfl, rfl, sg_len, hc, _, x4 _ _ hDa hl, ?_, l ++ [c], ?_, ?_, ?_, ?_, ?_⟩
      · rw [List.length_map, sizeLine_eq]
        omega
      · rw [upd_same, List.map_append]
        rfl
      · rw [List.length_append, el]
        rfl
      · rw [List.all_append, ok]
        simpa using kc
      · obtain ⟨p, r, e⟩ := hp4
        exact ⟨p, r, upd_other hDa.symm e⟩
      · intro b o hb e
        have h1 := x1 b o hb e
        have h4 := x4 b o hb (x2 b o hb e)
        rw [upd_ne (ne_of_none h1 hD)]
        exact h4
    · rintro H2 ⟨l, hl, el, ok, hp2, x2⟩
      refine ⟨_, rfl, D, rfl, l.map fun c => (⟨#[c]⟩ : Str), .inl (SqL.of ?_), ?_, ?_⟩
      · rw [hl, List.map_map]
        rfl
      · have e0 : (Str.ofString "").length = 0 := rfl
        rw [e0, Nat.mul_zero, Nat.add_zero, List.map_map]
        have e1 : (l.map ((fun x : Str => x.length) ∘ fun c => (⟨#[c]⟩ : Str))).sum = l.length := by
          have e2 : ((fun x : Str => x.length) ∘ fun c => (⟨#[c]⟩ : Str)) = fun _ => 1 := rfl
          rw [e2, List.map_const', List.sum_replicate_nat, Nat.mul_one]
        rw [e1]
        omega
      · refine q _ H2 ?_ ?_ hp2 x2
        · rw [join_one]
          unfold isKeyL
          rw [ok, decide_eq_true (by omega), decide_eq_true (by omega)]
          rfl
        · rw [str_len, join_one]
          omega

/-! conditions -/
inductive Cnd where
  | beg (t : Str)
  | len (a b : Int)
  | val (a b : Option Int)
  | both (x y : Cnd)
  | either (x y : Cnd)
  | opp (x : Cnd)
deriving DecidableEq
def oV : Option Int → V
  | none => .non
  | some i => .int i
def Cnd.cls : Cnd → Str
  | .beg _ => "Begins"
  | .len _ _ => "Length"
  | .val _ _ => "Value"
  | .both _ _ => "Both"
  | .either _ _ => "Either"
  | .opp _ => "Opposite"
def Cnd.simple : Cnd → List (List V)
  | .beg t => [[.str "begins", .str t]]
  | .len a b => [[.str "length", .int a, .int b]]
  | .val a b => [[.str "value", oV a, oV b]]
  | .both x y => x.simple ++ y.simple
  | .either x y => x.simple ++ y.simple
  | .opp x => x.simple
def Cnd.deep : Cnd → Nat
  | .both x y => max x.deep y.deep + 1
  | .either x y => max x.deep y.deep + 1
  | .opp x => x.deep + 1
  | _ => 0
def TupsAt (H : Hp) (us : List Addr) (rs : List (List V)) : Prop := Paired (fun u r => H u = some (.tup r)) us rs
def InsAt (K : Frag) (H : Hp) (a : Addr) (C : Str) (sh : List V) (rs : List (List V)) : Prop := ∃ dx p q us, H a = some (.ins (ga K C) dx [("own_shape", .ref p), ("own_simple", .ref q)]) ∧ H p = some (.tup sh) ∧ H q = some (.lst (us.map V.ref)) ∧ TupsAt H us rs
def CondAt (K : Frag) (H : Hp) (a : Addr) : Cnd → Prop
  | .beg t => InsAt K H a "Begins" [.str "begins", .str t] [[.str "begins", .str t]]
  | .len x y => InsAt K H a "Length" [.str "length", .int x, .int y] [[.str "length", .int x, .int y]]
  | .val x y => InsAt K H a "Value" [.str "value", oV x, oV y] [[.str "value", oV x, oV y]]
  | .both x y => ∃ b c, InsAt K H a "Both" [.str "and", .ref b, .ref c] (x.simple ++ y.simple) ∧ CondAt K H b x ∧ CondAt K H c y
  | .either x y => ∃ b c, InsAt K H a "Either" [.str "or", .ref b, .ref c] (x.simple ++ y.simple) ∧ CondAt K H b x ∧ CondAt K H c y
  | .opp x => ∃ b, InsAt K H a "Opposite" [.str "not", .ref b] x.simple ∧ CondAt K H b x
section
variable {K : Frag} {H H' : Hp} {a : Addr} {C : Str} {sh : List V} {rs : List (List V)}
theorem TupsAt.keep {us : List Addr} {rs : List (List V)} (h : TupsAt H us rs) (k : ∀ c o, H c = some o → (∃ xs, o = .tup xs) → H' c = some o) : TupsAt H' us rs := by
  induction h with
  | nil => exact .nil
  | cons h _ ih => exact .cons (k _ _ h ⟨_, rfl⟩) ih
theorem InsAt.keep (h : InsAt K H a C sh rs) (k : ∀ c o, H c = some o → (∀ C dx, o ≠ .ins C dx []) → (∀ i l, o ≠ .lst (.int i :: l)) → H' c = some o) : InsAt K H' a C sh rs := by
  obtain ⟨dx, p, q, us, h1, h2, h3, h4⟩ := h
  exact ⟨dx, p, q, us, k _ _ h1 (fun _ _ z => by cases z) (fun _ _ z => by cases z), k _ _ h2 (fun _ _ z => by cases z) (fun _ _ z => by cases z), k _ _ h3 (fun _ _ z => by cases z) (fun i l z => by cases us <;> simp at z), h4.keep fun c o e ⟨xs, ex⟩ => k c o e (fun _ _ z => by rw [ex] at z; cases z) (fun _ _ z => by rw [ex] at z; cases z)⟩
theorem CondAt.keep : ∀ {c : Cnd} {a : Addr}, CondAt K H a c → (∀ c o, H c = some o → (∀ C dx, o ≠ .ins C dx []) → (∀ i l, o ≠ .lst (.int i :: l)) → H' c = some o) → CondAt K H' a c
  | .beg _, _, h, k => InsAt.keep h k
  | .len _ _, _, h, k => InsAt.keep h k
  | .val _ _, _, h, k => InsAt.keep h k
  | .both _ _, _, ⟨b, c, h, h1, h2⟩, k => ⟨b, c, h.keep k, h1.keep k, h2.keep k⟩
  | .either _ _, _, ⟨b, c, h, h1, h2⟩, k => ⟨b, c, h.keep k, h1.keep k, h2.keep k⟩
  | .opp _, _, ⟨b, h, h1⟩, k => ⟨b, h.keep k, h1.keep k⟩
theorem CondAt.same {c : Cnd} (h : CondAt K H a c) (s : Same H H') : CondAt K H' a c := h.keep fun c o e _ _ => s c o e
theorem CondAt.ex {c : Cnd} {x D dx : Addr} (h : CondAt K H a c) (hx : H x = some (.ins D dx [])) (e : Ex x H H') : CondAt K H' a c := h.keep fun c o h n _ => e c o (fun z => by
  rw [z, hx] at h
  exact n _ _ (Option.some.inj h).symm) h
theorem CondAt.pool {c : Cnd} {x : Addr} (h : CondAt K H x c) (p : PoolAt H a) (e : Ex a H H') : CondAt K H' x c := h.keep fun b o h n ni => e b o (fun z => by
  obtain ⟨i, j, q⟩ := p
  rw [z, q] at h
  exact ni _ _ (Option.some.inj h).symm) h
theorem CondAt.ins : ∀ {c : Cnd} {a : Addr}, CondAt K H a c → ∃ sh, InsAt K H a c.cls sh c.simple
  | .beg _, _, h => ⟨_, h⟩
  | .len _ _, _, h => ⟨_, h⟩
  | .val _ _, _, h => ⟨_, h⟩
  | .both _ _, _, ⟨_, _, h, _⟩ => ⟨_, h⟩
  | .either _ _, _, ⟨_, _, h, _⟩ => ⟨_, h⟩
  | .opp _, _, ⟨_, h, _⟩ => ⟨_, h⟩
end
structure ClsOk (K : Frag) (C : Addr) : Prop where
  c : Cls K C
  n1 : NoAttr K C "own_shape"
  n2 : NoAttr K C "own_simple"
theorem clsOk {K : Frag} {mg : Str → Option Value} (T : Txt K mg) : ∀ c : Cnd, ClsOk K (ga K c.cls)
  | .beg _ => ⟨T.c_Begins, T.n_Begins_own_shape, T.n_Begins_own_simple⟩
  | .len _ _ => ⟨T.c_Length, T.n_Length_own_shape, T.n_Length_own_simple⟩
  | .val _ _ => ⟨T.c_Value, T.n_Value_own_shape, T.n_Value_own_simple⟩
  | .both _ _ => ⟨T.c_Both, T.n_Both_own_shape, T.n_Both_own_simple⟩
  | .either _ _ => ⟨T.c_Either, T.n_Either_own_shape, T.n_Either_own_simple⟩
  | .opp _ => ⟨T.c_Opposite, T.n_Opposite_own_shape, T.n_Opposite_own_simple⟩
theorem tups_app {H : Hp} {us vs : List Addr} {rs ts : List (List V)} (h : TupsAt H us rs) (h2 : TupsAt H vs ts) : TupsAt H (us ++ vs) (rs ++ ts) := by
  induction h with
  | nil => exact h2
  | cons h _ ih => exact .cons h ih
theorem tups_len {H : Hp} {us : List Addr} {rs : List (List V)} (h : TupsAt H us rs) : us.length = rs.length := by
  induction h with
  | nil => rfl
  | cons _ _ ih => rw [List.length_cons, List.length_cons, ih]

def sp_Condition_init (K : Frag) : Sp := fun vs H Q _ => ∃ (x C dx : Addr) (p q : V), vs = [.ref x, p, q] ∧ H x = some (.ins C dx []) ∧ Cls K C ∧ NoAttr K C "own_shape" ∧ NoAttr K C "own_simple" ∧
  ∀ H', H' x = some (.ins C dx [("own_shape", p), ("own_simple", q)]) → Ex x H H' → Q .non H'
theorem sc_Condition_init : FnScope ["self", "parts", "simple"] ["self", "parts", "simple"] (defScope s_Condition_init) := ⟨rfl, rfl, rfl, by decide +kernel, rfl, by decide +kernel, by decide +kernel⟩
theorem ok_Condition_init {P : Program} {w : World} {K : Frag} {mg : Str → Option Value} {base : Heap} (T : TxtP P K mg) : FnB P w K mg base 1 (mtA "Condition" "__init__" K) (sp_Condition_init K) := by
  refine okD (N := ["self", "parts", "simple"]) (ps := ["self", "parts", "simple"]) (k := 0) (d := g_Condition_init) T.d_Condition_init rfl sc_Condition_init (fun vs H Q E h => ?_) (fun _ _ _ _ _ _ us hl => match us, hl with | [_, _, _], _ => rfl) (fun A outer s H vs Q E hr h => ?_)
  · obtain ⟨x, C, dx, p, r, rfl, hx, cC, n1, n2, q⟩ := h
    rfl
  · have hu := hr.hu
    obtain ⟨x, C, dx, p, r, rfl, hx, cC, n1, n2, q⟩ := h
    refine ⟨_, PSs.nox ((pss_cons (ps_fld (pv 0) (pv 1) rfl)
      (pss_one (ps_fld (pv 0) (pv 2) rfl)))), ?_⟩
    walk_at "nm"
    refine ⟨_, rfl, _, rfl, x, C, dx, [], rfl, hx, cC, n1, (by decide), ?_⟩
    refine ⟨_, rfl, _, rfl, x, C, dx, _, rfl, upd_same, cC, n2, (by rw [putF0]; simp), ?_⟩
    refine q _ ?_ ?_
    · rw [upd_same]
      walk_at "pf"
    · intro c o hc e
      rw [upd_ne hc, upd_ne hc]
      exact e

def sp_Begins_init (K : Frag) : Sp := fun vs H Q E => ∃ (x dx : Addr) (t : Str), vs = [.ref x, .str t] ∧ H x = some (.ins (ga K "Begins") dx []) ∧ t.length ≤ 20 ∧ t.cps.toList.all keySign = true ∧
  ∀ H', CondAt K H' x (.beg t) → Ex x H H' → Q .non H'
theorem sc_Begins_init : FnScopeK ["self", "text", "sign"] ["self", "text"] (defScope s_Begins_init) := ⟨rfl, rfl, rfl, by decide +kernel, rfl, by decide +kernel, by decide +kernel, by decide +kernel, rfl, rfl⟩
theorem ok_Begins_init {P : Program} {w : World} {K : Frag} {mg : Str → Option Value} {base : Heap} (T : TxtP P K mg) : FnB P w K mg base 3 (mtA "Begins" "__init__" K) (sp_Begins_init K) := by
  refine okK (N := ["self", "text", "sign"]) (ps := ["self", "text"]) (k := 2) (d := g_Begins_init) T.su_Begins_init sc_Begins_init (fun vs H Q E h => ?_) (fun _ _ _ _ _ _ us hl => match us, hl with | [_, _], _ => rfl) (fun A outer s H vs Q E hr h => ?_)
  · obtain ⟨x, dx, t, rfl, hx, tl, ta, q⟩ := h
    rfl
  · have hu := hr.hu
    obtain ⟨x, dx, t, rfl, hx, tl, ta, q⟩ := h
    refine ⟨_, (psk_cons (ps_if (PW.pt (pw_or (pt_not (pt_val (pe_callB call_isi (by rfl) T.b_isinstance (by decide +kernel) (pa_cons (pv 1) (pa_cons (pe_bltn (v := .ty "str") (u := .type "str") (by rfl) T.b_str (by decide +kernel) rfl) pa_nil))))) (pw_or (pt_cmpR op_gt (pe_callB call_len_str (by rfl) T.b_len (by decide +kernel) (pa_cons (pv 1) pa_nil)) (pe_gc (by rfl) (gint T.v_MAX_LENGTH)) (nomark _)) (pw_or1 (pt_not (pt_val (pe_callB (cr_all rfl) (by rfl) T.b_all (by decide +kernel) (pa_cons (pe_lc (own := [("sign", 2)]) (g := gName 2) rfl sc_Begins_init.nd (pi_str (pv 1)) (blkOk_by (N := ["self", "text", "sign"]) (sc := defScope s_Begins_init) (by decide +kernel)) (fun _ _ _ _ _ => pg_name (i := 2) sc_Begins_init.nd rfl (Or.inl rfl)) (fun _ _ _ _ _ => pts_nil) (fun _ _ _ _ _ => (pe_cmpR op_in_sign (pv 2) (pe_gc (by rfl) (gstr T.v_CHARACTERS)) (by rfl)))) pa_nil))))))))
        (pss_one (ps_raiseC rfl (takes_of rfl rfl rfl rfl) T.r_InvalidText (ok_InvalidText_init (K := K) T) hr (pa_cons (pv 1) pa_nil)))
        pss_nil)
      (psk_sup (ip := T.ip) T.su_Begins_init sc_Begins_init rfl rfl (by rfl) (ok_Condition_init (K := K) T) hr (by decide) passL T.b_super (pa_cons (pe_tup (pa_cons pe_str (pa_cons (pv 1) pa_nil))) (pa_cons (pe_lst (pa_cons (pe_tup (pa_cons pe_str (pa_cons (pv 1) pa_nil))) pa_nil)) pa_nil)))), ?_⟩
    walk_at "nm"
    refine isi "str" (.str t) ?_
    walk_at "nm"
    rw [if_neg (by simp [Kn.isT])]
    refine ⟨by rw [sizeLine_eq]; omega, ?_⟩
    rw [if_neg (by omega)]
    refine ⟨_, rfl, _, rfl, fun D hD => ?_⟩
    have hl := str_len t
    refine lc_pure walk_str (f := fun i => .bl (keySign (t.cps.toList.getD i 0))) (it := fun i => .str ⟨#[t.cps.toList.getD i 0]⟩) (by rw [cps_len]; omega) hD (fun _ _ => trivial) (fun i H x H' _ y => yStr i H x H' y) (by intro i; rfl) ?_ ?_
    · intro i hi H' Q' s k
      refine ⟨_, rfl, _, rfl, _, rfl, ?_⟩
      have e := chars_mem (t.cps.toList.getD i 0)
      unfold chars at e
      rw [e]
      exact k H' (Same.refl _)
    intro H1 s1 hl'
    rw [cps_len, map_getD_range t.cps.toList 0 (fun c => V.bl (keySign c))] at hl'
    refine ⟨D, t.cps.toList.map keySign, rfl, SqL.of (by rw [hl', List.map_map]; rfl), ?_⟩
    refine ⟨_, rfl, ?_⟩
    rw [if_neg (by rw [List.all_map]; show ¬ (t.cps.toList.all keySign = false); rw [ta]; decide)]
    dsimp only [tSup]
    walk_at "nm"
    have hx1 := s1 _ _ hx
    refine ⟨dx, [], hx1, ?_⟩
    refine ⟨by show 2 ≤ sizeLine; rw [sizeLine_eq]; decide, fun p np => ?_⟩
    generalize hg : upd H1 p _ = H2
    have s2 := sameOf np hg
    have hp2 := atOf hg
    clear hg
    refine ⟨by show 2 ≤ sizeLine; rw [sizeLine_eq]; decide, fun u nu => ?_⟩
    generalize hg : upd H2 u _ = H3
    have s3 := sameOf nu hg
    have hu3 := atOf hg
    clear hg
    refine ⟨by show 1 ≤ sizeLine; rw [sizeLine_eq]; decide, fun l nl => ?_⟩
    generalize hg : upd H3 l _ = H4
    have s4 := sameOf nl hg
    have hl4 := atOf hg
    clear hg
    have hx4 := s4 _ _ (s3 _ _ (s2 _ _ hx1))
    refine ⟨x, ga K "Begins", dx, .ref p, .ref l, rfl, hx4, T.c_Begins, T.n_Begins_own_shape, T.n_Begins_own_simple, fun G hG xG => ?_⟩
    have k4 : ∀ c o, c ≠ x → H4 c = some o → G c = some o := fun c o n h => xG c o n h
    have npx : p ≠ x := fun z => by rw [z, hx1] at np; cases np
    have nux : u ≠ x := fun z => by rw [z, s2 _ _ hx1] at nu; cases nu
    have nlx : l ≠ x := fun z => by rw [z, s3 _ _ (s2 _ _ hx1)] at nl; cases nl
    refine q G ⟨dx, p, l, [u], hG, k4 _ _ npx (s4 _ _ (s3 _ _ hp2)), k4 _ _ nlx hl4, .cons (k4 _ _ nux (s4 _ _ hu3)) .nil⟩ ?_
    intro c o hc e
    exact k4 c o hc (s4 _ _ (s3 _ _ (s2 _ _ (s1 _ _ e))))

def sp_Length_init (K : Frag) : Sp := fun vs H Q E => ∃ (x dx : Addr) (a b : Int), vs = [.ref x, .int a, .int b] ∧ H x = some (.ins (ga K "Length") dx []) ∧ 1 ≤ a ∧ a ≤ b ∧ b ≤ 20 ∧
  ∀ H', CondAt K H' x (.len a b) → Ex x H H' → Q .non H'
theorem sc_Length_init : FnScopeK ["self", "least", "most"] ["self", "least", "most"] (defScope s_Length_init) := ⟨rfl, rfl, rfl, by decide +kernel, rfl, by decide +kernel, by decide +kernel, by decide +kernel, rfl, rfl⟩
theorem ok_Length_init {P : Program} {w : World} {K : Frag} {mg : Str → Option Value} {base : Heap} (T : TxtP P K mg) : FnB P w K mg base 4 (mtA "Length" "__init__" K) (sp_Length_init K) := by
  refine okK (N := ["self", "least", "most"]) (ps := ["self", "least", "most"]) (k := 3) (d := g_Length_init) T.su_Length_init sc_Length_init (fun vs H Q E h => ?_) (fun _ _ _ _ _ _ us hl => match us, hl with | [_, _, _], _ => rfl) (fun A outer s H vs Q E hr h => ?_)
  · obtain ⟨x, dx, a, b, rfl, hx, a1, ab, b2, q⟩ := h
    rfl
  · have hu := hr.hu
    obtain ⟨x, dx, a, b, rfl, hx, a1, ab, b2, q⟩ := h
    refine ⟨_, (psk_cons (ps_expr (pe_cF (ok_check_number (K := K) T) hr T.m_check_number (passes_call (takes_of rfl rfl rfl rfl) (fun _ _ _ _ h => h)) (pa_cons (pv 1) (pa_cons pe_int (pa_cons (pe_gc (by rfl) (gint T.v_MAX_LENGTH)) pa_nil)))))
      (psk_cons (ps_expr (pe_cF (ok_check_number (K := K) T) hr T.m_check_number (passes_call (takes_of rfl rfl rfl rfl) (fun _ _ _ _ h => h)) (pa_cons (pv 2) (pa_cons pe_int (pa_cons (pe_gc (by rfl) (gint T.v_MAX_LENGTH)) pa_nil)))))
      (psk_cons (ps_if (pt_cmpR op_gt (pv 1) (pv 2) (nomark _))
        (pss_one (ps_raiseC rfl (takes_of rfl rfl rfl rfl) T.r_InvalidRange (ok_InvalidRange_init (K := K) T) hr (pa_cons (pv 1) (pa_cons (pv 2) pa_nil))))
        pss_nil)
      (psk_sup (ip := T.ip) T.su_Length_init sc_Length_init rfl rfl (by rfl) (ok_Condition_init (K := K) T) hr (by decide) passL T.b_super (pa_cons (pe_tup (pa_cons pe_str (pa_cons (pv 1) (pa_cons (pv 2) pa_nil)))) (pa_cons (pe_lst (pa_cons (pe_tup (pa_cons pe_str (pa_cons (pv 1) (pa_cons (pv 2) pa_nil)))) pa_nil)) pa_nil)))))), ?_⟩
    walk_at "nm"
    refine ⟨_, .int a, _, _, rfl, .int a, (fun _ => ?_), fun z => absurd z (by simp [Kn.within]; omega)⟩
    walk_at "nm"
    refine ⟨_, .int b, _, _, rfl, .int b, (fun _ => ?_), fun z => absurd z (by simp [Kn.within]; omega)⟩
    walk_at "nm"
    rw [if_neg (by omega)]
    dsimp only [tSup]
    walk_at "nm"
    have s1 : Same H H := Same.refl _
    generalize hH : H = H1 at s1
    rw [hH] at hx q
    subst hH
    have hx1 : H x = some (.ins (ga K "Length") dx []) := s1 _ _ hx
    refine ⟨dx, [], hx1, ?_⟩
    refine ⟨by show 3 ≤ sizeLine; rw [sizeLine_eq]; decide, fun p np => ?_⟩
    generalize hg : upd H p _ = H2
    have s2 := sameOf np hg
    have hp2 := atOf hg
    clear hg
    refine ⟨by show 3 ≤ sizeLine; rw [sizeLine_eq]; decide, fun u nu => ?_⟩
    generalize hg : upd H2 u _ = H3
    have s3 := sameOf nu hg
    have hu3 := atOf hg
    clear hg
    refine ⟨by show 1 ≤ sizeLine; rw [sizeLine_eq]; decide, fun l nl => ?_⟩
    generalize hg : upd H3 l _ = H4
    have s4 := sameOf nl hg
    have hl4 := atOf hg
    clear hg
    have hx4 := s4 _ _ (s3 _ _ (s2 _ _ hx1))
    refine ⟨x, ga K "Length", dx, .ref p, .ref l, rfl, hx4, T.c_Length, T.n_Length_own_shape, T.n_Length_own_simple, fun G hG xG => ?_⟩
    have k4 : ∀ c o, c ≠ x → H4 c = some o → G c = some o := fun c o n h => xG c o n h
    have npx : p ≠ x := fun z => by rw [z, hx1] at np; cases np
    have nux : u ≠ x := fun z => by rw [z, s2 _ _ hx1] at nu; cases nu
    have nlx : l ≠ x := fun z => by rw [z, s3 _ _ (s2 _ _ hx1)] at nl; cases nl
    refine q G ⟨dx, p, l, [u], hG, k4 _ _ npx (s4 _ _ (s3 _ _ hp2)), k4 _ _ nlx hl4, .cons (k4 _ _ nux (s4 _ _ hu3)) .nil⟩ ?_
    intro c o hc e
    exact k4 c o hc (s4 _ _ (s3 _ _ (s2 _ _ (s1 _ _ e))))

def sp_Both_init (K : Frag) : Sp := fun vs H Q E => ∃ (x dx a b : Addr) (c d : Cnd), vs = [.ref x, .ref a, .ref b] ∧ H x = some (.ins (ga K "Both") dx []) ∧ CondAt K H a c ∧ CondAt K H b d ∧ c.simple.length + d.simple.length ≤ 1000 ∧
  ∀ H', InsAt K H' x "Both" [.str "and", .ref a, .ref b] (c.simple ++ d.simple) → CondAt K H' a c → CondAt K H' b d → Ex x H H' → Q .non H'
theorem sc_Both_init : FnScopeK ["self", "one", "other"] ["self", "one", "other"] (defScope s_Both_init) := ⟨rfl, rfl, rfl, by decide +kernel, rfl, by decide +kernel, by decide +kernel, by decide +kernel, rfl, rfl⟩
theorem ok_Both_init {P : Program} {w : World} {K : Frag} {mg : Str → Option Value} {base : Heap} (T : TxtP P K mg) : FnB P w K mg base 2 (mtA "Both" "__init__" K) (sp_Both_init K) := by
  refine okK (N := ["self", "one", "other"]) (ps := ["self", "one", "other"]) (k := 1) (d := g_Both_init) T.su_Both_init sc_Both_init (fun vs H Q E h => ?_) (fun _ _ _ _ _ _ us hl => match us, hl with | [_, _, _], _ => rfl) (fun A outer s H vs Q E hr h => ?_)
  · obtain ⟨x, dx, a, b, c, d, rfl, hx, ha, hb, few, q⟩ := h
    rfl
  · have hu := hr.hu
    obtain ⟨x, dx, a, b, c, d, rfl, hx, ha, hb, few, q⟩ := h
    refine ⟨_, (psk_sup (ip := T.ip) T.su_Both_init sc_Both_init rfl rfl (by rfl) (ok_Condition_init (K := K) T) hr (by decide) passL T.b_super (pa_cons (pe_tup (pa_cons pe_str (pa_cons (pv 1) (pa_cons (pv 2) pa_nil)))) (pa_cons (pe_op op_cat (pe_fld (pv 1) rfl) (pe_fld (pv 2) rfl)) pa_nil))), ?_⟩
    dsimp only [tSup]
    walk_at "nm"
    refine ⟨dx, [], hx, ?_⟩
    refine ⟨by show 3 ≤ sizeLine; rw [sizeLine_eq]; decide, fun p np => ?_⟩
    generalize hg : upd H p _ = H2
    have s2 := sameOf np hg
    have hp2 := atOf hg
    clear hg
    have ka := clsOk T.toTxt c
    have kb := clsOk T.toTxt d
    obtain ⟨sa, dxa, pa, qa, ua, ha1, ha2, ha3, ha4⟩ := (ha.same s2).ins
    obtain ⟨sb, dxb, pb, qb, ub, hb1, hb2, hb3, hb4⟩ := (hb.same s2).ins
    refine ⟨_, rfl, a, _, dxa, _, _, rfl, ha1, ka.c, ka.n2, (by walk_at "lk"), ?_⟩
    refine ⟨_, rfl, b, _, dxb, _, _, rfl, hb1, kb.c, kb.n2, (by walk_at "lk"), ?_⟩
    have la := tups_len ha4
    have lb := tups_len hb4
    refine ⟨qa, qb, _, _, rfl, rfl, ha3, hb3, (by rw [List.length_map, List.length_map, sizeLine_eq]; omega), fun l nl => ?_⟩
    generalize hg : upd H2 l _ = H3
    have s3 := sameOf nl hg
    have hl3 := atOf hg
    clear hg
    have hx3 := s3 _ _ (s2 _ _ hx)
    refine ⟨x, ga K "Both", dx, .ref p, .ref l, rfl, hx3, T.c_Both, T.n_Both_own_shape, T.n_Both_own_simple, fun G hG xG => ?_⟩
    have npx : p ≠ x := fun z => by rw [z, hx] at np; cases np
    have nlx : l ≠ x := fun z => by rw [z, s2 _ _ hx] at nl; cases nl
    have kt : TupsAt G (ua ++ ub) (c.simple ++ d.simple) := (tups_app (ha4.keep fun c o e _ => s3 _ _ e) (hb4.keep fun c o e _ => s3 _ _ e)).keep fun c o e ⟨xs, ex⟩ => xG c o (fun z => by rw [z, hx3, ex] at e; cases e) e
    refine q G ⟨dx, p, l, ua ++ ub, hG, xG _ _ npx (s3 _ _ hp2), (by rw [xG _ _ nlx hl3, List.map_append]), kt⟩ ((ha.same (s2.trans s3)).ex hx3 xG) ((hb.same (s2.trans s3)).ex hx3 xG) ?_
    intro c o hc e
    exact xG c o hc (s3 _ _ (s2 _ _ e))

def sp_Either_init (K : Frag) : Sp := fun vs H Q E => ∃ (x dx a b : Addr) (c d : Cnd), vs = [.ref x, .ref a, .ref b] ∧ H x = some (.ins (ga K "Either") dx []) ∧ CondAt K H a c ∧ CondAt K H b d ∧ c.simple.length + d.simple.length ≤ 1000 ∧
  ∀ H', InsAt K H' x "Either" [.str "or", .ref a, .ref b] (c.simple ++ d.simple) → CondAt K H' a c → CondAt K H' b d → Ex x H H' → Q .non H'
theorem sc_Either_init : FnScopeK ["self", "one", "other"] ["self", "one", "other"] (defScope s_Either_init) := ⟨rfl, rfl, rfl, by decide +kernel, rfl, by decide +kernel, by decide +kernel, by decide +kernel, rfl, rfl⟩
theorem ok_Either_init {P : Program} {w : World} {K : Frag} {mg : Str → Option Value} {base : Heap} (T : TxtP P K mg) : FnB P w K mg base 2 (mtA "Either" "__init__" K) (sp_Either_init K) := by
  refine okK (N := ["self", "one", "other"]) (ps := ["self", "one", "other"]) (k := 1) (d := g_Either_init) T.su_Either_init sc_Either_init (fun vs H Q E h => ?_) (fun _ _ _ _ _ _ us hl => match us, hl with | [_, _, _], _ => rfl) (fun A outer s H vs Q E hr h => ?_)
  · obtain ⟨x, dx, a, b, c, d, rfl, hx, ha, hb, few, q⟩ := h
    rfl
  · have hu := hr.hu
    obtain ⟨x, dx, a, b, c, d, rfl, hx, ha, hb, few, q⟩ := h
    refine ⟨_, (psk_sup (ip := T.ip) T.su_Either_init sc_Either_init rfl rfl (by rfl) (ok_Condition_init (K := K) T) hr (by decide) passL T.b_super (pa_cons (pe_tup (pa_cons pe_str (pa_cons (pv 1) (pa_cons (pv 2) pa_nil)))) (pa_cons (pe_op op_cat (pe_fld (pv 1) rfl) (pe_fld (pv 2) rfl)) pa_nil))), ?_⟩
    dsimp only [tSup]
    walk_at "nm"
    refine ⟨dx, [], hx, ?_⟩
    refine ⟨by show 3 ≤ sizeLine; rw [sizeLine_eq]; decide, fun p np => ?_⟩
    generalize hg : upd H p _ = H2
    have s2 := sameOf np hg
    have hp2 := atOf hg
    clear hg
    have ka := clsOk T.toTxt c
    have kb := clsOk T.toTxt d
    obtain ⟨sa, dxa, pa, qa, ua, ha1, ha2, ha3, ha4⟩ := (ha.same s2).ins
    obtain ⟨sb, dxb, pb, qb, ub, hb1, hb2, hb3, hb4⟩ := (hb.same s2).ins
    refine ⟨_, rfl, a, _, dxa, _, _, rfl, ha1, ka.c, ka.n2, (by walk_at "lk"), ?_⟩
    refine ⟨_, rfl, b, _, dxb, _, _, rfl, hb1, kb.c, kb.n2, (by walk_at "lk"), ?_⟩
    have la := tups_len ha4
    have lb := tups_len hb4
    refine ⟨qa, qb, _, _, rfl, rfl, ha3, hb3, (by rw [List.length_map, List.length_map, sizeLine_eq]; omega), fun l nl => ?_⟩
    generalize hg : upd H2 l _ = H3
    have s3 := sameOf nl hg
    have hl3 := atOf hg
    clear hg
    have hx3 := s3 _ _ (s2 _ _ hx)
    refine ⟨x, ga K "Either", dx, .ref p, .ref l, rfl, hx3, T.c_Either, T.n_Either_own_shape, T.n_Either_own_simple, fun G hG xG => ?_⟩
    have npx : p ≠ x := fun z => by rw [z, hx] at np; cases np
    have nlx : l ≠ x := fun z => by rw [z, s2 _ _ hx] at nl; cases nl
    have kt : TupsAt G (ua ++ ub) (c.simple ++ d.simple) := (tups_app (ha4.keep fun c o e _ => s3 _ _ e) (hb4.keep fun c o e _ => s3 _ _ e)).keep fun c o e ⟨xs, ex⟩ => xG c o (fun z => by rw [z, hx3, ex] at e; cases e) e
    refine q G ⟨dx, p, l, ua ++ ub, hG, xG _ _ npx (s3 _ _ hp2), (by rw [xG _ _ nlx hl3, List.map_append]), kt⟩ ((ha.same (s2.trans s3)).ex hx3 xG) ((hb.same (s2.trans s3)).ex hx3 xG) ?_
    intro c o hc e
    exact xG c o hc (s3 _ _ (s2 _ _ e))

def sp_Opposite_init (K : Frag) : Sp := fun vs H Q E => ∃ (x dx a : Addr) (c : Cnd), vs = [.ref x, .ref a] ∧ H x = some (.ins (ga K "Opposite") dx []) ∧ CondAt K H a c ∧
  ∀ H', InsAt K H' x "Opposite" [.str "not", .ref a] c.simple → CondAt K H' a c → Ex x H H' → Q .non H'
theorem sc_Opposite_init : FnScopeK ["self", "one"] ["self", "one"] (defScope s_Opposite_init) := ⟨rfl, rfl, rfl, by decide +kernel, rfl, by decide +kernel, by decide +kernel, by decide +kernel, rfl, rfl⟩
theorem ok_Opposite_init {P : Program} {w : World} {K : Frag} {mg : Str → Option Value} {base : Heap} (T : TxtP P K mg) : FnB P w K mg base 2 (mtA "Opposite" "__init__" K) (sp_Opposite_init K) := by
  refine okK (N := ["self", "one"]) (ps := ["self", "one"]) (k := 1) (d := g_Opposite_init) T.su_Opposite_init sc_Opposite_init (fun vs H Q E h => ?_) (fun _ _ _ _ _ _ us hl => match us, hl with | [_, _], _ => rfl) (fun A outer s H vs Q E hr h => ?_)
  · obtain ⟨x, dx, a, c, rfl, hx, ha, q⟩ := h
    rfl
  · have hu := hr.hu
    obtain ⟨x, dx, a, c, rfl, hx, ha, q⟩ := h
    refine ⟨_, (psk_sup (ip := T.ip) T.su_Opposite_init sc_Opposite_init rfl rfl (by rfl) (ok_Condition_init (K := K) T) hr (by decide) passL T.b_super (pa_cons (pe_tup (pa_cons pe_str (pa_cons (pv 1) pa_nil))) (pa_cons (pe_fld (pv 1) rfl) pa_nil))), ?_⟩
    dsimp only [tSup]
    walk_at "nm"
    refine ⟨dx, [], hx, ?_⟩
    refine ⟨by show 2 ≤ sizeLine; rw [sizeLine_eq]; decide, fun p np => ?_⟩
    generalize hg : upd H p _ = H2
    have s2 := sameOf np hg
    have hp2 := atOf hg
    clear hg
    have ka := clsOk T.toTxt c
    obtain ⟨sa, dxa, pa, qa, ua, ha1, ha2, ha3, ha4⟩ := (ha.same s2).ins
    refine ⟨_, rfl, a, _, dxa, _, _, rfl, ha1, ka.c, ka.n2, (by walk_at "lk"), ?_⟩
    have hx2 := s2 _ _ hx
    refine ⟨x, ga K "Opposite", dx, .ref p, .ref qa, rfl, hx2, T.c_Opposite, T.n_Opposite_own_shape, T.n_Opposite_own_simple, fun G hG xG => ?_⟩
    have npx : p ≠ x := fun z => by rw [z, hx] at np; cases np
    have nqx : qa ≠ x := fun z => by rw [z, hx2] at ha3; cases ha3
    have kt : TupsAt G ua c.simple := ha4.keep fun c o e ⟨xs, ex⟩ => xG c o (fun z => by rw [z, hx2, ex] at e; cases e) e
    refine q G ⟨dx, p, qa, ua, hG, xG _ _ npx hp2, xG _ _ nqx ha3, kt⟩ ((ha.same s2).ex hx2 xG) ?_
    intro c o hc e
    exact xG c o hc (s2 _ _ e)

def sp_Value_init (K : Frag) : Sp := fun vs H Q E => ∃ (x dx : Addr) (a b : Option Int), vs = [.ref x, oV a, oV b] ∧ H x = some (.ins (ga K "Value") dx []) ∧ (∀ i j, a = some i → b = some j → i ≤ j) ∧
  ∀ H', CondAt K H' x (.val a b) → Ex x H H' → Q .non H'
theorem sc_Value_init : FnScopeK ["self", "least", "most", "bound"] ["self", "least", "most"] (defScope s_Value_init) := ⟨rfl, rfl, rfl, by decide +kernel, rfl, by decide +kernel, by decide +kernel, by decide +kernel, rfl, rfl⟩
theorem ok_Value_init {P : Program} {w : World} {K : Frag} {mg : Str → Option Value} {base : Heap} (T : TxtP P K mg) : FnB P w K mg base 3 (mtA "Value" "__init__" K) (sp_Value_init K) := by
  refine okK (N := ["self", "least", "most", "bound"]) (ps := ["self", "least", "most"]) (k := 2) (d := g_Value_init) T.su_Value_init sc_Value_init (fun vs H Q E h => ?_) (fun _ _ _ _ _ _ us hl => match us, hl with | [_, _, _], _ => rfl) (fun A outer s H vs Q E hr h => ?_)
  · obtain ⟨x, dx, a, b, rfl, hx, ab, q⟩ := h
    rfl
  · have hu := hr.hu
    obtain ⟨x, dx, a, b, rfl, hx, ab, q⟩ := h
    refine ⟨_, (psk_cons (ps_for (passes_of rfl) rfl (pi_tup (pe_tup (pa_cons (pv 1) (pa_cons (pv 2) pa_nil)))) (pg_name (i := 3) sc_Value_init.nd rfl (Or.inl rfl))
        (pss_one (ps_if (PW.pt (pw_and (pt_cmpR op_notN (pv 3) pe_non (nomark _)) (pw_and1 (pt_not (pt_val (pe_cF (ok_is_integer (K := K) T) hr T.m_is_integer passL (pa_cons (pv 3) pa_nil)))))))
          (pss_one (ps_raiseC rfl (takes_of rfl rfl rfl rfl) T.r_InvalidNumber (ok_InvalidNumber_init (K := K) T) hr (pa_cons (pv 3) pa_nil)))
          pss_nil)))
      (psk_cons (ps_if (PW.pt (pw_and (pt_cmpR op_notN (pv 1) pe_non (nomark _)) (pw_and (pt_cmpR op_notN (pv 2) pe_non (nomark _)) (pw_and1 (pt_cmpR op_gt (pv 1) (pv 2) (nomark _))))))
        (pss_one (ps_raiseC rfl (takes_of rfl rfl rfl rfl) T.r_InvalidRange (ok_InvalidRange_init (K := K) T) hr (pa_cons (pv 1) (pa_cons (pv 2) pa_nil))))
        pss_nil)
      (psk_sup (ip := T.ip) T.su_Value_init sc_Value_init rfl rfl (by rfl) (ok_Condition_init (K := K) T) hr (by decide) passL T.b_super (pa_cons (pe_tup (pa_cons pe_str (pa_cons (pv 1) (pa_cons (pv 2) pa_nil)))) (pa_cons (pe_lst (pa_cons (pe_tup (pa_cons pe_str (pa_cons (pv 1) (pa_cons (pv 2) pa_nil)))) pa_nil)) pa_nil))))), ?_⟩
    refine seq_gen (fun σ' H' => ∃ v3, σ' = [some (.ref x), some (oV a), some (oV b), v3] ∧ Same H H') (fun N hN => ?_) ?_
    · walk_at "nm"
      refine ⟨_, rfl, _, rfl, by show 2 ≤ sizeLine; rw [sizeLine_eq]; decide, fun p np => ?_⟩
      generalize hg : upd H p _ = H2
      have s2 := sameOf np hg
      have hp2 := atOf hg
      clear hg
      refine ⟨p, rfl, ⟨_, SqT.of hp2⟩, for_tup (K := K) (a := p) (xs := [oV a, oV b]) (fun j σ' H' => (∃ v3, σ' = [some (.ref x), some (oV a), some (oV b), v3]) ∧ Same H2 H') ⟨⟨_, rfl⟩, Same.refl _⟩ (fun j σ' H' _ ⟨_, e⟩ => SqT.of (e _ _ hp2)) ?_ ?_⟩
      rotate_left
      · rintro σ' H' ⟨⟨v3, rfl⟩, e⟩
        exact hN _ _ ⟨v3, rfl, s2.trans e⟩
      rintro j y σ' H3 hj ⟨⟨v3, rfl⟩, e3⟩
      dsimp only [gName]
      simp only [List.set_cons_succ, List.set_cons_zero]
      have hy : ∃ o : Option Int, y = oV o := by
        match j, hj with
        | 0, hj => exact ⟨a, (Option.some.inj hj).symm⟩
        | 1, hj => exact ⟨b, (Option.some.inj hj).symm⟩
      obtain ⟨o, rfl⟩ := hy
      walk_at "nm"
      cases o with
      | none =>
        rw [if_neg (by simp [oV])]
        exact ⟨⟨_, rfl⟩, e3⟩
      | some i =>
        rw [if_pos (by simp [oV])]
        refine ⟨_, .int i, rfl, .int i, ?_⟩
        refine ⟨_, rfl, ?_⟩
        rw [if_neg (by simp [Kn.isT, Kn.ty]; try decide)]
        exact ⟨⟨_, rfl⟩, e3⟩
    rintro σ' H1 ⟨v3, rfl, s1⟩
    walk_at "nm"
    have key : ∀ (D : Ends) (hD : ∀ σ H', D.nx σ H' = Q .non H'), tSup (ga K "Value") (sp_Condition_init K) E0 (tCons (tTup (tCons (tC (V.str "value")) (tCons (tVar 1) (tCons (tVar 2) tNil)))) (tCons (tLst (tCons (tTup (tCons (tC (V.str "value")) (tCons (tVar 1) (tCons (tVar 2) tNil)))) tNil)) tNil)) D [some (.ref x), some (oV a), some (oV b), v3] H1 := by
      intro D hD
      dsimp only [tSup]
      walk_at "nm"
      have hx1 : H1 x = some (.ins (ga K "Value") dx []) := s1 _ _ hx
      refine ⟨dx, [], hx1, ?_⟩
      refine ⟨by show 3 ≤ sizeLine; rw [sizeLine_eq]; decide, fun p np => ?_⟩
      generalize hg : upd H1 p _ = H2
      have s2 := sameOf np hg
      have hp2 := atOf hg
      clear hg
      refine ⟨by show 3 ≤ sizeLine; rw [sizeLine_eq]; decide, fun u nu => ?_⟩
      generalize hg : upd H2 u _ = H3
      have s3 := sameOf nu hg
      have hu3 := atOf hg
      clear hg
      refine ⟨by show 1 ≤ sizeLine; rw [sizeLine_eq]; decide, fun l nl => ?_⟩
      generalize hg : upd H3 l _ = H4
      have s4 := sameOf nl hg
      have hl4 := atOf hg
      clear hg
      have hx4 := s4 _ _ (s3 _ _ (s2 _ _ hx1))
      refine ⟨x, ga K "Value", dx, .ref p, .ref l, rfl, hx4, T.c_Value, T.n_Value_own_shape, T.n_Value_own_simple, fun G hG xG => ?_⟩
      show D.nx _ G
      rw [hD]
      have k4 : ∀ c o, c ≠ x → H4 c = some o → G c = some o := fun c o n h => xG c o n h
      have npx : p ≠ x := fun z => by rw [z, hx1] at np; cases np
      have nux : u ≠ x := fun z => by rw [z, s2 _ _ hx1] at nu; cases nu
      have nlx : l ≠ x := fun z => by rw [z, s3 _ _ (s2 _ _ hx1)] at nl; cases nl
      refine q G ⟨dx, p, l, [u], hG, k4 _ _ npx (s4 _ _ (s3 _ _ hp2)), k4 _ _ nlx hl4, .cons (k4 _ _ nux (s4 _ _ hu3)) .nil⟩ ?_
      intro c o hc e
      exact k4 c o hc (s4 _ _ (s3 _ _ (s2 _ _ (s1 _ _ e))))
    cases a with
    | none =>
      rw [if_neg (by simp [oV])]
      exact key _ fun _ _ => rfl
    | some i =>
      rw [if_pos (by simp [oV])]
      cases b with
      | none =>
        rw [if_neg (by simp [oV])]
        exact key _ fun _ _ => rfl
      | some j =>
        rw [if_pos (by simp [oV])]
        refine ⟨i, rfl, j, rfl, ?_⟩
        rw [if_neg (by have := ab i j rfl rfl; omega)]
        exact key _ fun _ _ => rfl

/-! conditions: what they tell, what is written of them -/
def leO : Option Int → Int → Bool
  | none, _ => true
  | some a, v => decide (a ≤ v)
def geO : Option Int → Int → Bool
  | none, _ => true
  | some a, v => decide (v ≤ a)
def Cnd.holds : Cnd → Str → Int → Bool
  | .beg t, z, _ => PySem.Txt.startswith z t
  | .len a b, z, _ => decide (a ≤ (z.length : Int)) && decide ((z.length : Int) ≤ b)
  | .val a b, _, v => leO a v && geO b v
  | .both x y, z, v => x.holds z v && y.holds z v
  | .either x y, z, v => x.holds z v || y.holds z v
  | .opp x, z, v => !x.holds z v
def smO (o : Option Int) : Prop := ∀ i, o = some i → -100 ≤ i ∧ i ≤ 100
def Cnd.fine : Cnd → Prop
  | .beg t => t.length ≤ 20 ∧ t.cps.toList.all keySign = true
  | .len a b => 1 ≤ a ∧ a ≤ b ∧ b ≤ 20
  | .val a b => smO a ∧ smO b ∧ ∀ i j, a = some i → b = some j → i ≤ j
  | .both x y => x.fine ∧ y.fine
  | .either x y => x.fine ∧ y.fine
  | .opp x => x.fine
def oT : Option Int → Str
  | none => "None"
  | some i => toString i
def Cnd.text : Cnd → Str
  | .beg t => Str.ofString "Begins(" ++ reprText t ++ Str.ofString ")"
  | .len a b => Str.ofString "Length(" ++ (toString a : Str) ++ Str.ofString ", " ++ (toString b : Str) ++ Str.ofString ")"
  | .val a b => Str.ofString "Value(" ++ oT a ++ Str.ofString ", " ++ oT b ++ Str.ofString ")"
  | .both x y => Str.ofString "(" ++ x.text ++ Str.ofString " & " ++ y.text ++ Str.ofString ")"
  | .either x y => Str.ofString "(" ++ x.text ++ Str.ofString " | " ++ y.text ++ Str.ofString ")"
  | .opp x => Str.ofString "~" ++ x.text
section
variable {c : Cnd}
theorem cls_beg (h : c.cls = "Begins") : ∃ t, c = .beg t := by
  cases c <;> first | exact ⟨_, rfl⟩ | (dsimp only [Cnd.cls] at h; exact absurd h (by decide +kernel))
theorem cls_len (h : c.cls = "Length") : ∃ a b, c = .len a b := by
  cases c <;> first | exact ⟨_, _, rfl⟩ | (dsimp only [Cnd.cls] at h; exact absurd h (by decide +kernel))
theorem cls_val (h : c.cls = "Value") : ∃ a b, c = .val a b := by
  cases c <;> first | exact ⟨_, _, rfl⟩ | (dsimp only [Cnd.cls] at h; exact absurd h (by decide +kernel))
theorem cls_both (h : c.cls = "Both") : ∃ x y, c = .both x y := by
  cases c <;> first | exact ⟨_, _, rfl⟩ | (dsimp only [Cnd.cls] at h; exact absurd h (by decide +kernel))
theorem cls_either (h : c.cls = "Either") : ∃ x y, c = .either x y := by
  cases c <;> first | exact ⟨_, _, rfl⟩ | (dsimp only [Cnd.cls] at h; exact absurd h (by decide +kernel))
theorem cls_opp (h : c.cls = "Opposite") : ∃ x, c = .opp x := by
  cases c <;> first | exact ⟨_, rfl⟩ | (dsimp only [Cnd.cls] at h; exact absurd h (by decide +kernel))
theorem cls_six : ∀ c : Cnd, c.cls ∈ six
  | .beg _ => by dsimp only [Cnd.cls]; decide +kernel
  | .len _ _ => by dsimp only [Cnd.cls]; decide +kernel
  | .val _ _ => by dsimp only [Cnd.cls]; decide +kernel
  | .both _ _ => by dsimp only [Cnd.cls]; decide +kernel
  | .either _ _ => by dsimp only [Cnd.cls]; decide +kernel
  | .opp _ => by dsimp only [Cnd.cls]; decide +kernel
end
section
variable {K : Frag} {mg : Str → Option Value} (T : Txt K mg)
include T
theorem mt_and : ∀ c : Cnd, Meth K (ga K c.cls) "__and__" (mtA "Condition" "__and__" K)
  | .beg _ => by
    have h := T.e_Begins_and
    have e : ma K (ga K "Begins") "__and__" = mtA "Condition" "__and__" K := T.ie_Begins_and
    rw [e] at h
    exact h
  | .len _ _ => by
    have h := T.e_Length_and
    have e : ma K (ga K "Length") "__and__" = mtA "Condition" "__and__" K := T.ie_Length_and
    rw [e] at h
    exact h
  | .val _ _ => by
    have h := T.e_Value_and
    have e : ma K (ga K "Value") "__and__" = mtA "Condition" "__and__" K := T.ie_Value_and
    rw [e] at h
    exact h
  | .both _ _ => by
    have h := T.e_Both_and
    have e : ma K (ga K "Both") "__and__" = mtA "Condition" "__and__" K := T.ie_Both_and
    rw [e] at h
    exact h
  | .either _ _ => by
    have h := T.e_Either_and
    have e : ma K (ga K "Either") "__and__" = mtA "Condition" "__and__" K := T.ie_Either_and
    rw [e] at h
    exact h
  | .opp _ => by
    have h := T.e_Opposite_and
    have e : ma K (ga K "Opposite") "__and__" = mtA "Condition" "__and__" K := T.ie_Opposite_and
    rw [e] at h
    exact h
theorem mt_or : ∀ c : Cnd, Meth K (ga K c.cls) "__or__" (mtA "Condition" "__or__" K)
  | .beg _ => by
    have h := T.e_Begins_or
    have e : ma K (ga K "Begins") "__or__" = mtA "Condition" "__or__" K := T.ie_Begins_or
    rw [e] at h
    exact h
  | .len _ _ => by
    have h := T.e_Length_or
    have e : ma K (ga K "Length") "__or__" = mtA "Condition" "__or__" K := T.ie_Length_or
    rw [e] at h
    exact h
  | .val _ _ => by
    have h := T.e_Value_or
    have e : ma K (ga K "Value") "__or__" = mtA "Condition" "__or__" K := T.ie_Value_or
    rw [e] at h
    exact h
  | .both _ _ => by
    have h := T.e_Both_or
    have e : ma K (ga K "Both") "__or__" = mtA "Condition" "__or__" K := T.ie_Both_or
    rw [e] at h
    exact h
  | .either _ _ => by
    have h := T.e_Either_or
    have e : ma K (ga K "Either") "__or__" = mtA "Condition" "__or__" K := T.ie_Either_or
    rw [e] at h
    exact h
  | .opp _ => by
    have h := T.e_Opposite_or
    have e : ma K (ga K "Opposite") "__or__" = mtA "Condition" "__or__" K := T.ie_Opposite_or
    rw [e] at h
    exact h
theorem mt_invert : ∀ c : Cnd, Meth K (ga K c.cls) "__invert__" (mtA "Condition" "__invert__" K)
  | .beg _ => by
    have h := T.e_Begins_invert
    have e : ma K (ga K "Begins") "__invert__" = mtA "Condition" "__invert__" K := T.ie_Begins_invert
    rw [e] at h
    exact h
  | .len _ _ => by
    have h := T.e_Length_invert
    have e : ma K (ga K "Length") "__invert__" = mtA "Condition" "__invert__" K := T.ie_Length_invert
    rw [e] at h
    exact h
  | .val _ _ => by
    have h := T.e_Value_invert
    have e : ma K (ga K "Value") "__invert__" = mtA "Condition" "__invert__" K := T.ie_Value_invert
    rw [e] at h
    exact h
  | .both _ _ => by
    have h := T.e_Both_invert
    have e : ma K (ga K "Both") "__invert__" = mtA "Condition" "__invert__" K := T.ie_Both_invert
    rw [e] at h
    exact h
  | .either _ _ => by
    have h := T.e_Either_invert
    have e : ma K (ga K "Either") "__invert__" = mtA "Condition" "__invert__" K := T.ie_Either_invert
    rw [e] at h
    exact h
  | .opp _ => by
    have h := T.e_Opposite_invert
    have e : ma K (ga K "Opposite") "__invert__" = mtA "Condition" "__invert__" K := T.ie_Opposite_invert
    rw [e] at h
    exact h
theorem mt_len : ∀ c : Cnd, Meth K (ga K c.cls) "__len__" (mtA "Condition" "__len__" K)
  | .beg _ => by
    have h := T.e_Begins_len
    have e : ma K (ga K "Begins") "__len__" = mtA "Condition" "__len__" K := T.ie_Begins_len
    rw [e] at h
    exact h
  | .len _ _ => by
    have h := T.e_Length_len
    have e : ma K (ga K "Length") "__len__" = mtA "Condition" "__len__" K := T.ie_Length_len
    rw [e] at h
    exact h
  | .val _ _ => by
    have h := T.e_Value_len
    have e : ma K (ga K "Value") "__len__" = mtA "Condition" "__len__" K := T.ie_Value_len
    rw [e] at h
    exact h
  | .both _ _ => by
    have h := T.e_Both_len
    have e : ma K (ga K "Both") "__len__" = mtA "Condition" "__len__" K := T.ie_Both_len
    rw [e] at h
    exact h
  | .either _ _ => by
    have h := T.e_Either_len
    have e : ma K (ga K "Either") "__len__" = mtA "Condition" "__len__" K := T.ie_Either_len
    rw [e] at h
    exact h
  | .opp _ => by
    have h := T.e_Opposite_len
    have e : ma K (ga K "Opposite") "__len__" = mtA "Condition" "__len__" K := T.ie_Opposite_len
    rw [e] at h
    exact h
theorem mt_eq : ∀ c : Cnd, Meth K (ga K c.cls) "__eq__" (mtA "Condition" "__eq__" K)
  | .beg _ => by
    have h := T.e_Begins_eq
    have e : ma K (ga K "Begins") "__eq__" = mtA "Condition" "__eq__" K := T.ie_Begins_eq
    rw [e] at h
    exact h
  | .len _ _ => by
    have h := T.e_Length_eq
    have e : ma K (ga K "Length") "__eq__" = mtA "Condition" "__eq__" K := T.ie_Length_eq
    rw [e] at h
    exact h
  | .val _ _ => by
    have h := T.e_Value_eq
    have e : ma K (ga K "Value") "__eq__" = mtA "Condition" "__eq__" K := T.ie_Value_eq
    rw [e] at h
    exact h
  | .both _ _ => by
    have h := T.e_Both_eq
    have e : ma K (ga K "Both") "__eq__" = mtA "Condition" "__eq__" K := T.ie_Both_eq
    rw [e] at h
    exact h
  | .either _ _ => by
    have h := T.e_Either_eq
    have e : ma K (ga K "Either") "__eq__" = mtA "Condition" "__eq__" K := T.ie_Either_eq
    rw [e] at h
    exact h
  | .opp _ => by
    have h := T.e_Opposite_eq
    have e : ma K (ga K "Opposite") "__eq__" = mtA "Condition" "__eq__" K := T.ie_Opposite_eq
    rw [e] at h
    exact h
theorem mt_call : ∀ c : Cnd, Meth K (ga K c.cls) "__call__" (mtA "Condition" "__call__" K)
  | .beg _ => by
    have h := T.e_Begins_call
    have e : ma K (ga K "Begins") "__call__" = mtA "Condition" "__call__" K := T.ie_Begins_call
    rw [e] at h
    exact h
  | .len _ _ => by
    have h := T.e_Length_call
    have e : ma K (ga K "Length") "__call__" = mtA "Condition" "__call__" K := T.ie_Length_call
    rw [e] at h
    exact h
  | .val _ _ => by
    have h := T.e_Value_call
    have e : ma K (ga K "Value") "__call__" = mtA "Condition" "__call__" K := T.ie_Value_call
    rw [e] at h
    exact h
  | .both _ _ => by
    have h := T.e_Both_call
    have e : ma K (ga K "Both") "__call__" = mtA "Condition" "__call__" K := T.ie_Both_call
    rw [e] at h
    exact h
  | .either _ _ => by
    have h := T.e_Either_call
    have e : ma K (ga K "Either") "__call__" = mtA "Condition" "__call__" K := T.ie_Either_call
    rw [e] at h
    exact h
  | .opp _ => by
    have h := T.e_Opposite_call
    have e : ma K (ga K "Opposite") "__call__" = mtA "Condition" "__call__" K := T.ie_Opposite_call
    rw [e] at h
    exact h
theorem mt_holds : ∀ c : Cnd, Meth K (ga K c.cls) "holds" (mtA c.cls "holds" K)
  | .beg _ => T.e_Begins_holds
  | .len _ _ => T.e_Length_holds
  | .val _ _ => T.e_Value_holds
  | .both _ _ => T.e_Both_holds
  | .either _ _ => T.e_Either_holds
  | .opp _ => T.e_Opposite_holds
theorem mt_repr : ∀ c : Cnd, Meth K (ga K c.cls) "__repr__" (mtA c.cls "__repr__" K)
  | .beg _ => T.e_Begins_repr
  | .len _ _ => T.e_Length_repr
  | .val _ _ => T.e_Value_repr
  | .both _ _ => T.e_Both_repr
  | .either _ _ => T.e_Either_repr
  | .opp _ => T.e_Opposite_repr
theorem pr_parts : ∀ c : Cnd, PropOf K (ga K c.cls) "parts" (ma K (ga K c.cls) "parts") (gtA "Condition" "parts" K)
  | .beg _ => by
    have h := T.p_Begins_parts
    rw [T.ip_Begins_parts] at h
    exact h
  | .len _ _ => by
    have h := T.p_Length_parts
    rw [T.ip_Length_parts] at h
    exact h
  | .val _ _ => by
    have h := T.p_Value_parts
    rw [T.ip_Value_parts] at h
    exact h
  | .both _ _ => by
    have h := T.p_Both_parts
    rw [T.ip_Both_parts] at h
    exact h
  | .either _ _ => by
    have h := T.p_Either_parts
    rw [T.ip_Either_parts] at h
    exact h
  | .opp _ => by
    have h := T.p_Opposite_parts
    rw [T.ip_Opposite_parts] at h
    exact h
theorem mt_ne : ∀ c : Cnd, NoNe K (ga K c.cls)
  | .beg _ => T.x_Begins_ne
  | .len _ _ => T.x_Length_ne
  | .val _ _ => T.x_Value_ne
  | .both _ _ => T.x_Both_ne
  | .either _ _ => T.x_Either_ne
  | .opp _ => T.x_Opposite_ne
theorem mt_first : ∀ c : Cnd, ∀ T ∈ all7, PySem.W.notFirst K (ga K c.cls) (.type T) = true
  | .beg _ => T.f_Begins
  | .len _ _ => T.f_Length
  | .val _ _ => T.f_Value
  | .both _ _ => T.f_Both
  | .either _ _ => T.f_Either
  | .opp _ => T.f_Opposite
theorem own_c : ∀ c : Cnd, OwnC K (ga K c.cls)
  | .beg _ => T.o_Begins
  | .len _ _ => T.o_Length
  | .val _ _ => T.o_Value
  | .both _ _ => T.o_Both
  | .either _ _ => T.o_Either
  | .opp _ => T.o_Opposite
end

def Shp (K : Frag) (H : Hp) (sh : List V) : Cnd → Prop
  | .beg t => sh = [.str "begins", .str t]
  | .len a b => sh = [.str "length", .int a, .int b]
  | .val a b => sh = [.str "value", oV a, oV b]
  | .both x y => ∃ b c, sh = [.str "and", .ref b, .ref c] ∧ CondAt K H b x ∧ CondAt K H c y
  | .either x y => ∃ b c, sh = [.str "or", .ref b, .ref c] ∧ CondAt K H b x ∧ CondAt K H c y
  | .opp x => ∃ b, sh = [.str "not", .ref b] ∧ CondAt K H b x
theorem CondAt.shp {K : Frag} {H : Hp} {a : Addr} : ∀ {c : Cnd}, CondAt K H a c → ∃ dx p q us sh, H a = some (.ins (ga K c.cls) dx [("own_shape", .ref p), ("own_simple", .ref q)]) ∧ H p = some (.tup sh) ∧ Shp K H sh c ∧ H q = some (.lst (us.map V.ref)) ∧ TupsAt H us c.simple
  | .beg _, ⟨dx, p, q, us, h1, h2, h3, h4⟩ => ⟨dx, p, q, us, _, h1, h2, rfl, h3, h4⟩
  | .len _ _, ⟨dx, p, q, us, h1, h2, h3, h4⟩ => ⟨dx, p, q, us, _, h1, h2, rfl, h3, h4⟩
  | .val _ _, ⟨dx, p, q, us, h1, h2, h3, h4⟩ => ⟨dx, p, q, us, _, h1, h2, rfl, h3, h4⟩
  | .both _ _, ⟨b, c, ⟨dx, p, q, us, h1, h2, h3, h4⟩, hb, hc⟩ => ⟨dx, p, q, us, _, h1, h2, ⟨b, c, rfl, hb, hc⟩, h3, h4⟩
  | .either _ _, ⟨b, c, ⟨dx, p, q, us, h1, h2, h3, h4⟩, hb, hc⟩ => ⟨dx, p, q, us, _, h1, h2, ⟨b, c, rfl, hb, hc⟩, h3, h4⟩
  | .opp _, ⟨b, ⟨dx, p, q, us, h1, h2, h3, h4⟩, hb⟩ => ⟨dx, p, q, us, _, h1, h2, ⟨b, rfl, hb⟩, h3, h4⟩
theorem oV_inj {a b : Option Int} (h : oV a = oV b) : a = b := by
  cases a <;> cases b <;> simp [oV] at h ⊢
  exact h
theorem own_inj {H : Hp} {a C dx p q C' dx' p' q' : Addr} (e : H a = some (.ins C dx [("own_shape", .ref p), ("own_simple", .ref q)])) (f : H a = some (.ins C' dx' [("own_shape", .ref p'), ("own_simple", .ref q')])) : p = p' := by
  rw [e] at f
  injection f with f
  injection f with _ _ f
  simp at f
  exact f.1
theorem cond_inj {K : Frag} {H : Hp} : ∀ {c d : Cnd} {a : Addr}, CondAt K H a c → CondAt K H a d → c = d := by
  intro c
  induction c with
  | beg t =>
    intro d a h1 h2
    obtain ⟨dx, p, q, us, sh, e1, e2, e3, _⟩ := h1.shp
    obtain ⟨dx', p', q', us', sh', f1, f2, f3, _⟩ := h2.shp
    obtain rfl := own_inj e1 f1
    rw [e2] at f2; cases f2
    cases e3
    cases d with
    | beg s => simp [Shp] at f3; rw [f3]
    | len _ _ => simp [Shp] at f3
    | val _ _ => simp [Shp] at f3
    | both _ _ => obtain ⟨_, _, f3, _⟩ := f3; simp at f3
    | either _ _ => obtain ⟨_, _, f3, _⟩ := f3; simp at f3
    | opp _ => obtain ⟨_, f3, _⟩ := f3; simp at f3
  | len x y =>
    intro d a h1 h2
    obtain ⟨dx, p, q, us, sh, e1, e2, e3, _⟩ := h1.shp
    obtain ⟨dx', p', q', us', sh', f1, f2, f3, _⟩ := h2.shp
    obtain rfl := own_inj e1 f1
    rw [e2] at f2; cases f2
    cases e3
    cases d with
    | beg s => simp [Shp] at f3
    | len _ _ => simp [Shp] at f3; rw [f3.1, f3.2]
    | val _ _ => simp [Shp] at f3; exact absurd f3.1 (by decide)
    | both _ _ => obtain ⟨_, _, f3, _⟩ := f3; simp at f3
    | either _ _ => obtain ⟨_, _, f3, _⟩ := f3; simp at f3
    | opp _ => obtain ⟨_, f3, _⟩ := f3; simp at f3
  | val x y =>
    intro d a h1 h2
    obtain ⟨dx, p, q, us, sh, e1, e2, e3, _⟩ := h1.shp
    obtain ⟨dx', p', q', us', sh', f1, f2, f3, _⟩ := h2.shp
    obtain rfl := own_inj e1 f1
    rw [e2] at f2; cases f2
    cases e3
    cases d with
    | beg s => simp [Shp] at f3
    | len _ _ => simp [Shp] at f3; exact absurd f3.1 (by decide)
    | val _ _ => simp [Shp] at f3; rw [oV_inj f3.1, oV_inj f3.2]
    | both _ _ => obtain ⟨_, _, f3, _⟩ := f3; simp at f3; exact absurd f3.1 (by decide)
    | either _ _ => obtain ⟨_, _, f3, _⟩ := f3; simp at f3; exact absurd f3.1 (by decide)
    | opp _ => obtain ⟨_, f3, _⟩ := f3; simp at f3
  | both x y ihx ihy =>
    intro d a h1 h2
    obtain ⟨dx, p, q, us, sh, e1, e2, e3, _⟩ := h1.shp
    obtain ⟨dx', p', q', us', sh', f1, f2, f3, _⟩ := h2.shp
    obtain rfl := own_inj e1 f1
    rw [e2] at f2; cases f2
    obtain ⟨b, c, rfl, hb, hc⟩ := e3
    cases d with
    | beg s => simp [Shp] at f3
    | len _ _ => simp [Shp] at f3
    | val _ _ => simp [Shp] at f3; exact absurd f3.1 (by decide)
    | both _ _ => obtain ⟨b', c', f3, g1, g2⟩ := f3; simp at f3; obtain ⟨rfl, rfl⟩ := f3; rw [ihx hb g1, ihy hc g2]
    | either _ _ => obtain ⟨_, _, f3, _⟩ := f3; simp at f3; exact absurd f3.1 (by decide)
    | opp _ => obtain ⟨_, f3, _⟩ := f3; simp at f3
  | either x y ihx ihy =>
    intro d a h1 h2
    obtain ⟨dx, p, q, us, sh, e1, e2, e3, _⟩ := h1.shp
    obtain ⟨dx', p', q', us', sh', f1, f2, f3, _⟩ := h2.shp
    obtain rfl := own_inj e1 f1
    rw [e2] at f2; cases f2
    obtain ⟨b, c, rfl, hb, hc⟩ := e3
    cases d with
    | beg s => simp [Shp] at f3
    | len _ _ => simp [Shp] at f3
    | val _ _ => simp [Shp] at f3; exact absurd f3.1 (by decide)
    | both _ _ => obtain ⟨_, _, f3, _⟩ := f3; simp at f3; exact absurd f3.1 (by decide)
    | either _ _ => obtain ⟨b', c', f3, g1, g2⟩ := f3; simp at f3; obtain ⟨rfl, rfl⟩ := f3; rw [ihx hb g1, ihy hc g2]
    | opp _ => obtain ⟨_, f3, _⟩ := f3; simp at f3
  | opp x ih =>
    intro d a h1 h2
    obtain ⟨dx, p, q, us, sh, e1, e2, e3, _⟩ := h1.shp
    obtain ⟨dx', p', q', us', sh', f1, f2, f3, _⟩ := h2.shp
    obtain rfl := own_inj e1 f1
    rw [e2] at f2; cases f2
    obtain ⟨b, rfl, hb⟩ := e3
    cases d with
    | beg s => simp [Shp] at f3
    | len _ _ => simp [Shp] at f3
    | val _ _ => simp [Shp] at f3
    | both _ _ => obtain ⟨_, _, f3, _⟩ := f3; simp at f3
    | either _ _ => obtain ⟨_, _, f3, _⟩ := f3; simp at f3
    | opp _ => obtain ⟨b', f3, g1⟩ := f3; simp at f3; subst f3; rw [ih hb g1]

def SpH (K : Frag) (C : Str) (d : Nat) : Sp := fun vs H Q _ => ∃ (x : Addr) (c : Cnd) (z : Str) (v : Int), vs = [.ref x, .str z, .int v] ∧ CondAt K H x c ∧ c.cls = C ∧ c.deep < d ∧ c.fine ∧ z.length ≤ 1000000 ∧ ∀ H', Same H H' → Q (.bl (c.holds z v)) H'
def HoldsOk (P : Program) (w : World) (K : Frag) (mg : Str → Option Value) (base : Heap) (n d : Nat) : Prop := ∀ c : Cnd, FnB P w K mg base n (mtA c.cls "holds" K) (SpH K c.cls d)

section
variable {K : Frag} {H : Hp} {σ : L2.St} {Q : VK} {E : XK}
theorem ixShp {x C dx p : Addr} {q v : V} {sh : List V} {i : Int} (hσ : σ[0]? = some (some (.ref x))) (h1 : H x = some (.ins C dx [("own_shape", .ref p), ("own_simple", q)])) (c : Cls K C) (n : NoAttr K C "own_shape") (h2 : H p = some (.tup sh)) (hv : atI sh i = some v) (k : Q v H) : tOp (rIxT K) (tFld K (tVar 0) "own_shape") (tC (.int i)) σ H Q := by
  refine ⟨_, hσ, x, C, dx, _, _, rfl, h1, c, n, (by walk_at "lk"), ?_⟩
  exact ixT (SqT.of h2) hv k
theorem meth_c {nm : Str} {sp : Sp} {t : TA} {c : Cnd} {a : Addr} (hc : CondAt K H a c) (n1 : (nm == ("own_shape" : Str)) = false) (n2 : (nm == ("own_simple" : Str)) = false) (q : t σ H fun vs H2 => sp (.ref a :: (vs ++ [])) H2 Q E) :
    ∃ a' dx fs, V.ref a = .ref a' ∧ H a' = some (.ins (ga K c.cls) dx fs) ∧ fs.lookup nm = none ∧ t σ H fun vs H2 => sp (V.ref a :: (vs ++ [])) H2 Q E := by
  obtain ⟨dx, p, l, us, sh, e1, _⟩ := hc.shp
  refine ⟨a, dx, _, rfl, e1, ?_, q⟩
  rw [List.lookup, n1, List.lookup, n2]
  rfl
end

theorem sc_Length_holds : FnScope ["self", "key", "value"] ["self", "key", "value"] (defScope s_Length_holds) := ⟨rfl, rfl, rfl, by decide +kernel, rfl, by decide +kernel, by decide +kernel⟩
theorem ok_Length_holds {P : Program} {w : World} {K : Frag} {mg : Str → Option Value} {base : Heap} (T : TxtP P K mg) {d : Nat} : FnB P w K mg base (d + 20 + 1) (mtA "Length" "holds" K) (SpH K "Length" (d + 1)) := by
  refine okD (N := ["self", "key", "value"]) (ps := ["self", "key", "value"]) (k := d + 20) (d := g_Length_holds) T.d_Length_holds rfl sc_Length_holds (fun vs H Q E h => ?_) (fun _ _ _ _ _ _ us hl => match us, hl with | [_, _, _], _ => rfl) (fun A outer s H vs Q E hr h => ?_)
  · obtain ⟨x, c, z, v, rfl, hx, cc, dd, ff, hz, q⟩ := h
    rfl
  · have hrn := hr
    replace hr : Rm 20 _ := hr.mono (by omega)
    have hu := hr.hu
    obtain ⟨x, c, z, v, rfl, hx, cc, dd, ff, hz, q⟩ := h
    refine ⟨_, PSs.nox ((pss_one (ps_ret (pe_chain op_le op_le (pe_ix ix_tup (pe_fld (pv 0) rfl) pe_int (fun _ _ => rfl)) (pe_callB call_len_str (by rfl) T.b_len (by decide +kernel) (pa_cons (pv 1) pa_nil)) (pe_ix ix_tup (pe_fld (pv 0) rfl) pe_int (fun _ _ => rfl)))))), ?_⟩
    obtain ⟨a, b, rfl⟩ := cls_len cc
    obtain ⟨dx, p, l, us, h1, h2, h3, h4⟩ := hx
    walk_at "nm"
    refine ⟨_, rfl, x, _, dx, _, _, rfl, h1, T.c_Length, T.n_Length_own_shape, (by walk_at "lk"), ?_⟩
    refine ixT (SqT.of h2) (v := .int a) rfl ?_
    refine ⟨by rw [sizeLine_eq]; omega, a, rfl, ?_⟩
    unfold Cnd.holds at q
    by_cases c : a ≤ (z.length : Int)
    · rw [if_pos c]
      refine ⟨_, rfl, x, _, dx, _, _, rfl, h1, T.c_Length, T.n_Length_own_shape, (by walk_at "lk"), ?_⟩
      refine ixT (SqT.of h2) (v := .int b) rfl ?_
      refine ⟨b, rfl, ?_⟩
      rw [decide_eq_true c] at q
      exact q H (Same.refl _)
    · rw [if_neg c]
      rw [decide_eq_false c] at q
      exact q H (Same.refl _)

theorem sc_Begins_holds : FnScope ["self", "key", "value"] ["self", "key", "value"] (defScope s_Begins_holds) := ⟨rfl, rfl, rfl, by decide +kernel, rfl, by decide +kernel, by decide +kernel⟩
theorem ok_Begins_holds {P : Program} {w : World} {K : Frag} {mg : Str → Option Value} {base : Heap} (T : TxtP P K mg) {d : Nat} : FnB P w K mg base (d + 20 + 1) (mtA "Begins" "holds" K) (SpH K "Begins" (d + 1)) := by
  refine okD (N := ["self", "key", "value"]) (ps := ["self", "key", "value"]) (k := d + 20) (d := g_Begins_holds) T.d_Begins_holds rfl sc_Begins_holds (fun vs H Q E h => ?_) (fun _ _ _ _ _ _ us hl => match us, hl with | [_, _, _], _ => rfl) (fun A outer s H vs Q E hr h => ?_)
  · obtain ⟨x, c, z, v, rfl, hx, cc, dd, ff, hz, q⟩ := h
    rfl
  · have hrn := hr
    replace hr : Rm 20 _ := hr.mono (by omega)
    have hu := hr.hu
    obtain ⟨x, c, z, v, rfl, hx, cc, dd, ff, hz, q⟩ := h
    refine ⟨_, PSs.nox ((pss_one (ps_ret (pe_bm PySem.F.plainAttrs_str PySem.F.slot_str_startswith PySem.F.type_str_startswith mt_startswith (pv 1) (pa_cons (pe_ix ix_tup (pe_fld (pv 0) rfl) pe_int (fun _ _ => rfl)) pa_nil))))), ?_⟩
    obtain ⟨t, rfl⟩ := cls_beg cc
    obtain ⟨dx, p, l, us, h1, h2, h3, h4⟩ := hx
    walk_at "nm"
    refine ⟨_, rfl, rfl, ?_⟩
    refine ⟨_, rfl, x, _, dx, _, _, rfl, h1, T.c_Begins, T.n_Begins_own_shape, (by walk_at "lk"), ?_⟩
    refine ixT (SqT.of h2) (v := .str t) rfl ?_
    exact ⟨z, rfl, t, rfl, q H (Same.refl _)⟩

theorem sc_Value_holds : FnScope ["self", "key", "value", "least", "most"] ["self", "key", "value"] (defScope s_Value_holds) := ⟨rfl, rfl, rfl, by decide +kernel, rfl, by decide +kernel, by decide +kernel⟩
theorem ok_Value_holds {P : Program} {w : World} {K : Frag} {mg : Str → Option Value} {base : Heap} (T : TxtP P K mg) {d : Nat} : FnB P w K mg base (d + 20 + 1) (mtA "Value" "holds" K) (SpH K "Value" (d + 1)) := by
  refine okD (N := ["self", "key", "value", "least", "most"]) (ps := ["self", "key", "value"]) (k := d + 20) (d := g_Value_holds) T.d_Value_holds rfl sc_Value_holds (fun vs H Q E h => ?_) (fun _ _ _ _ _ _ us hl => match us, hl with | [_, _, _], _ => rfl) (fun A outer s H vs Q E hr h => ?_)
  · obtain ⟨x, c, z, v, rfl, hx, cc, dd, ff, hz, q⟩ := h
    rfl
  · have hrn := hr
    replace hr : Rm 20 _ := hr.mono (by omega)
    have hu := hr.hu
    obtain ⟨x, c, z, v, rfl, hx, cc, dd, ff, hz, q⟩ := h
    refine ⟨_, PSs.nox ((pss_cons (ps_asg (pe_slice sl_tupA (pe_fld (pv 0) rfl) (po_some pe_int) po_none) (pg_tup (n := 2) (by rfl) (pgs_cons (pg_name (i := 3) sc_Value_holds.nd rfl (Or.inl rfl)) (pgs_cons (pg_name (i := 4) sc_Value_holds.nd rfl (Or.inl rfl)) pgs_nil))))
      (pss_one (ps_ret (pe_and (pe_or (pe_cmpR op_isN (pv 3) pe_non (nomark _)) (pe_one (pe_cmpR op_le (pv 3) (pv 2) (nomark _)))) (pe_one (pe_or (pe_cmpR op_isN (pv 4) pe_non (nomark _)) (pe_one (pe_cmpR op_le (pv 2) (pv 4) (nomark _)))))))))), ?_⟩
    obtain ⟨a, b, rfl⟩ := cls_val cc
    obtain ⟨dx, p, l, us, h1, h2, h3, h4⟩ := hx
    walk_at "nm"
    refine ⟨_, rfl, x, _, dx, _, _, rfl, h1, T.c_Value, T.n_Value_own_shape, (by walk_at "lk"), ?_⟩
    refine ⟨p, _, rfl, SqT.of h2, fun z => absurd z.1 (by show ¬ (1 = 0); decide), fun _ p2 np => ?_⟩
    generalize hg : upd H p2 _ = H2
    have hp2 : H2 p2 = some (.tup [oV a, oV b]) := atOf hg
    have s2 := sameOf np hg
    refine ⟨p2, _, rfl, SqT.of hp2, rfl, _, _, rfl, ?_⟩
    refine ⟨_, _, rfl, ?_⟩
    walk_at "nm"
    have q := q H2 s2
    have e : Cnd.holds (.val a b) z v = (leO a v && geO b v) := rfl
    rw [e] at q
    have key : ∀ (Q' : VK), (∀ r, r = geO b v → Q' (.bl r) H2) → tOrV (tOp (fun x y H Q => y = V.non ∧ Q (V.bl (decide (x = V.non))) H) (tVar 4) (tC V.non)) (tOp (rI0 fun i j => V.bl (decide (i ≤ j))) (tVar 2) (tVar 4)) [some (V.ref x), some (V.str z), some (V.int v), some (oV a), some (oV b)] H2 Q' := by
      intro Q' q'
      walk_at "nm"
      cases b with
      | none => rw [if_pos (by simp [oV])]; exact q' _ rfl
      | some j =>
        rw [if_neg (by simp [oV])]
        exact ⟨_, rfl, q' _ rfl⟩
    have keyA : ∀ (Q' : VK), (∀ r, r = leO a v → Q' (.bl r) H2) → tOrV (tOp (fun x y H Q => y = V.non ∧ Q (V.bl (decide (x = V.non))) H) (tVar 3) (tC V.non)) (tOp (rI0 fun i j => V.bl (decide (i ≤ j))) (tVar 3) (tVar 2)) [some (V.ref x), some (V.str z), some (V.int v), some (oV a), some (oV b)] H2 Q' := by
      intro Q' q'
      walk_at "nm"
      cases a with
      | none => rw [if_pos (by simp [oV])]; exact q' _ rfl
      | some j =>
        rw [if_neg (by simp [oV])]
        exact ⟨_, rfl, q' _ rfl⟩
    refine ⟨rfl, ?_⟩
    refine keyA _ fun r hr => ⟨r, rfl, ?_⟩
    cases r with
    | false =>
      rw [← hr] at q
      exact q
    | true =>
      rw [← hr] at q
      refine key _ fun r2 h2 => ?_
      rw [← h2] at q
      exact q

theorem sc_Both_holds : FnScope ["self", "key", "value"] ["self", "key", "value"] (defScope s_Both_holds) := ⟨rfl, rfl, rfl, by decide +kernel, rfl, by decide +kernel, by decide +kernel⟩
theorem ok_Both_holds {P : Program} {w : World} {K : Frag} {mg : Str → Option Value} {base : Heap} (T : TxtP P K mg) {d : Nat} (IH : HoldsOk P w K mg base (d + 20) d) : FnB P w K mg base (d + 20 + 1) (mtA "Both" "holds" K) (SpH K "Both" (d + 1)) := by
  refine okD (N := ["self", "key", "value"]) (ps := ["self", "key", "value"]) (k := d + 20) (d := g_Both_holds) T.d_Both_holds rfl sc_Both_holds (fun vs H Q E h => ?_) (fun _ _ _ _ _ _ us hl => match us, hl with | [_, _, _], _ => rfl) (fun A outer s H vs Q E hr h => ?_)
  · obtain ⟨x, c, z, v, rfl, hx, cc, dd, ff, hz, q⟩ := h
    rfl
  · have hrn := hr
    replace hr : Rm 20 _ := hr.mono (by omega)
    have hu := hr.hu
    obtain ⟨x, c, z, v, rfl, hx, cc, dd, ff, hz, q⟩ := h
    refine ⟨_, PSs.nox ((pss_one (ps_ret (pe_and (pe_exI fun c => pe_mtF (pe_ix ix_tup (pe_fld (pv 0) rfl) pe_int (fun _ _ => rfl)) (clsOk T.toTxt c).c (mt_holds T.toTxt c) (IH c) hrn passL (pa_cons (pv 1) (pa_cons (pv 2) pa_nil)) (Nat.le_refl _)) (pe_one (pe_exI fun c => pe_mtF (pe_ix ix_tup (pe_fld (pv 0) rfl) pe_int (fun _ _ => rfl)) (clsOk T.toTxt c).c (mt_holds T.toTxt c) (IH c) hrn passL (pa_cons (pv 1) (pa_cons (pv 2) pa_nil)) (Nat.le_refl _))))))), ?_⟩
    obtain ⟨c1, c2, rfl⟩ := cls_both cc
    obtain ⟨b1, b2, ⟨dx, p, l, us, h1, h2, h3, h4⟩, hc1, hc2⟩ := hx
    have dd : max c1.deep c2.deep + 1 < d + 1 := dd
    obtain ⟨f1, f2⟩ := ff
    walk_at "nm"
    refine ⟨c1, ixShp (i := 1) rfl h1 T.c_Both T.n_Both_own_shape h2 rfl (meth_c hc1 (by decide) (by decide) ?_)⟩
    walk_at "nm"
    refine ⟨b1, c1, z, v, rfl, hc1, rfl, by omega, f1, hz, fun H1 s1 => ⟨_, rfl, ?_⟩⟩
    have e : Cnd.holds (.both c1 c2) z v = (c1.holds z v && c2.holds z v) := rfl
    rw [e] at q
    cases e1 : c1.holds z v with
    | false =>
      rw [e1] at q
      rw [if_neg (by simp)]
      exact q H1 s1
    | true =>
      rw [e1] at q
      rw [if_pos rfl]
      refine ⟨c2, ixShp (i := 2) rfl (s1 _ _ h1) T.c_Both T.n_Both_own_shape (s1 _ _ h2) rfl (meth_c (hc2.same s1) (by decide) (by decide) ?_)⟩
      walk_at "nm"
      exact ⟨b2, c2, z, v, rfl, hc2.same s1, rfl, by omega, f2, hz, fun H2 s2 => q H2 (s1.trans s2)⟩

theorem sc_Either_holds : FnScope ["self", "key", "value"] ["self", "key", "value"] (defScope s_Either_holds) := ⟨rfl, rfl, rfl, by decide +kernel, rfl, by decide +kernel, by decide +kernel⟩
theorem ok_Either_holds {P : Program} {w : World} {K : Frag} {mg : Str → Option Value} {base : Heap} (T : TxtP P K mg) {d : Nat} (IH : HoldsOk P w K mg base (d + 20) d) : FnB P w K mg base (d + 20 + 1) (mtA "Either" "holds" K) (SpH K "Either" (d + 1)) := by
  refine okD (N := ["self", "key", "value"]) (ps := ["self", "key", "value"]) (k := d + 20) (d := g_Either_holds) T.d_Either_holds rfl sc_Either_holds (fun vs H Q E h => ?_) (fun _ _ _ _ _ _ us hl => match us, hl with | [_, _, _], _ => rfl) (fun A outer s H vs Q E hr h => ?_)
  · obtain ⟨x, c, z, v, rfl, hx, cc, dd, ff, hz, q⟩ := h
    rfl
  · have hrn := hr
    replace hr : Rm 20 _ := hr.mono (by omega)
    have hu := hr.hu
    obtain ⟨x, c, z, v, rfl, hx, cc, dd, ff, hz, q⟩ := h
    refine ⟨_, PSs.nox ((pss_one (ps_ret (pe_or (pe_exI fun c => pe_mtF (pe_ix ix_tup (pe_fld (pv 0) rfl) pe_int (fun _ _ => rfl)) (clsOk T.toTxt c).c (mt_holds T.toTxt c) (IH c) hrn passL (pa_cons (pv 1) (pa_cons (pv 2) pa_nil)) (Nat.le_refl _)) (pe_one (pe_exI fun c => pe_mtF (pe_ix ix_tup (pe_fld (pv 0) rfl) pe_int (fun _ _ => rfl)) (clsOk T.toTxt c).c (mt_holds T.toTxt c) (IH c) hrn passL (pa_cons (pv 1) (pa_cons (pv 2) pa_nil)) (Nat.le_refl _))))))), ?_⟩
    obtain ⟨c1, c2, rfl⟩ := cls_either cc
    obtain ⟨b1, b2, ⟨dx, p, l, us, h1, h2, h3, h4⟩, hc1, hc2⟩ := hx
    have dd : max c1.deep c2.deep + 1 < d + 1 := dd
    obtain ⟨f1, f2⟩ := ff
    walk_at "nm"
    refine ⟨c1, ixShp (i := 1) rfl h1 T.c_Either T.n_Either_own_shape h2 rfl (meth_c hc1 (by decide) (by decide) ?_)⟩
    walk_at "nm"
    refine ⟨b1, c1, z, v, rfl, hc1, rfl, by omega, f1, hz, fun H1 s1 => ⟨_, rfl, ?_⟩⟩
    have e : Cnd.holds (.either c1 c2) z v = (c1.holds z v || c2.holds z v) := rfl
    rw [e] at q
    cases e1 : c1.holds z v with
    | true =>
      rw [e1] at q
      rw [if_pos rfl]
      exact q H1 s1
    | false =>
      rw [e1] at q
      rw [if_neg (by simp)]
      refine ⟨c2, ixShp (i := 2) rfl (s1 _ _ h1) T.c_Either T.n_Either_own_shape (s1 _ _ h2) rfl (meth_c (hc2.same s1) (by decide) (by decide) ?_)⟩
      walk_at "nm"
      exact ⟨b2, c2, z, v, rfl, hc2.same s1, rfl, by omega, f2, hz, fun H2 s2 => q H2 (s1.trans s2)⟩

theorem sc_Opposite_holds : FnScope ["self", "key", "value"] ["self", "key", "value"] (defScope s_Opposite_holds) := ⟨rfl, rfl, rfl, by decide +kernel, rfl, by decide +kernel, by decide +kernel⟩
theorem ok_Opposite_holds {P : Program} {w : World} {K : Frag} {mg : Str → Option Value} {base : Heap} (T : TxtP P K mg) {d : Nat} (IH : HoldsOk P w K mg base (d + 20) d) : FnB P w K mg base (d + 20 + 1) (mtA "Opposite" "holds" K) (SpH K "Opposite" (d + 1)) := by
  refine okD (N := ["self", "key", "value"]) (ps := ["self", "key", "value"]) (k := d + 20) (d := g_Opposite_holds) T.d_Opposite_holds rfl sc_Opposite_holds (fun vs H Q E h => ?_) (fun _ _ _ _ _ _ us hl => match us, hl with | [_, _, _], _ => rfl) (fun A outer s H vs Q E hr h => ?_)
  · obtain ⟨x, c, z, v, rfl, hx, cc, dd, ff, hz, q⟩ := h
    rfl
  · have hrn := hr
    replace hr : Rm 20 _ := hr.mono (by omega)
    have hu := hr.hu
    obtain ⟨x, c, z, v, rfl, hx, cc, dd, ff, hz, q⟩ := h
    refine ⟨_, PSs.nox ((pss_one (ps_ret (pe_not (pe_exI fun c => pe_mtF (pe_ix ix_tup (pe_fld (pv 0) rfl) pe_int (fun _ _ => rfl)) (clsOk T.toTxt c).c (mt_holds T.toTxt c) (IH c) hrn passL (pa_cons (pv 1) (pa_cons (pv 2) pa_nil)) (Nat.le_refl _)))))), ?_⟩
    obtain ⟨c1, rfl⟩ := cls_opp cc
    obtain ⟨b1, ⟨dx, p, l, us, h1, h2, h3, h4⟩, hc1⟩ := hx
    have dd : c1.deep + 1 < d + 1 := dd
    walk_at "nm"
    refine ⟨c1, ixShp (i := 1) rfl h1 T.c_Opposite T.n_Opposite_own_shape h2 rfl (meth_c hc1 (by decide) (by decide) ?_)⟩
    walk_at "nm"
    exact ⟨b1, c1, z, v, rfl, hc1, rfl, by omega, ff, hz, fun H1 s1 => ⟨_, rfl, q H1 s1⟩⟩

theorem holds_all {P : Program} {w : World} {K : Frag} {mg : Str → Option Value} {base : Heap} (T : TxtP P K mg) : ∀ d, HoldsOk P w K mg base (d + 20) d
  | 0 => fun c => FnB.none (mt_holds T.toTxt c).kp fun vs H Q E ⟨_, _, _, _, _, _, _, h, _⟩ => absurd h (Nat.not_lt_zero _)
  | d + 1 => fun c => FnB.mono (match c with
    | .beg _ => ok_Begins_holds T
    | .len _ _ => ok_Length_holds T
    | .val _ _ => ok_Value_holds T
    | .both _ _ => ok_Both_holds T (holds_all T d)
    | .either _ _ => ok_Either_holds T (holds_all T d)
    | .opp _ => ok_Opposite_holds T (holds_all T d)) (by omega)

def SpR (K : Frag) (C : Str) (d : Nat) : Sp := fun vs H Q _ => ∃ (x : Addr) (c : Cnd), vs = [.ref x] ∧ CondAt K H x c ∧ c.cls = C ∧ c.deep < d ∧ c.fine ∧ c.text.length ≤ sizeLine ∧ Q (.str c.text) H
def ReprOk (P : Program) (w : World) (K : Frag) (mg : Str → Option Value) (base : Heap) (n d : Nat) : Prop := ∀ c : Cnd, FnB P w K mg base n (mtA c.cls "__repr__" K) (SpR K c.cls d)

section
variable {K : Frag} {H : Hp} {σ : L2.St} {Q : Str → Hp → Prop} {E : XK} {ts : List TE} {acc : Str}
theorem js_0 {z : Str} (hz : z.length ≤ sizeLine) (q : tJs ts z σ H Q) : tJs (tC (.str z) :: ts) Str.empty σ H Q := ⟨z, rfl, by rw [Str.empty_append]; exact hz, by rw [Str.empty_append]; exact q⟩
theorem js_c {z : Str} (hz : (acc ++ z).length ≤ sizeLine) (q : tJs ts (acc ++ z) σ H Q) : tJs (tC (.str z) :: ts) acc σ H Q := ⟨z, rfl, hz, q⟩
theorem js_R {te : TE} {z : Str} (hz : (acc ++ reprText z).length ≤ sizeLine) (q : tJs ts (acc ++ reprText z) σ H Q) (h : ∀ Q', Q' (.str z) H → te σ H Q') : tJs (tFmtR te :: ts) acc σ H Q := h _ (.inl ⟨z, rfl, by rw [Str.length_append] at hz; omega, _, rfl, hz, q⟩)
theorem js_i {te : TE} {i : Int} (hi : i.natAbs.log2 < 1920) (hz : (acc ++ (toString i : Str)).length ≤ sizeLine) (q : tJs ts (acc ++ (toString i : Str)) σ H Q) (h : ∀ Q', Q' (.int i) H → te σ H Q') : tJs (tFmt te :: ts) acc σ H Q := h _ (.inr ⟨i, rfl, hi, _, rfl, hz, q⟩)
theorem log_small {i : Int} (h1 : -1000000 ≤ i) (h2 : i ≤ 1000000) : i.natAbs.log2 < 1920 := by
  by_cases z : i.natAbs = 0
  · rw [z]; decide
  · exact Nat.lt_trans ((Nat.log2_lt (k := 20) z).mpr (by omega)) (by decide)
theorem js_N {te : TE} {o : Option Int} (ho : smO o) (hz : (acc ++ oT o).length ≤ sizeLine) (q : tJs ts (acc ++ oT o) σ H Q) (h : ∀ Q', Q' (oV o) H → te σ H Q') : tJs (tFmtRN te :: ts) acc σ H Q := by
  cases o with
  | none => exact h _ (.inl ⟨rfl, _, rfl, hz, q⟩)
  | some i => exact h _ (.inr ⟨i, rfl, log_small (by have := ho i rfl; omega) (by have := ho i rfl; omega), _, rfl, hz, q⟩)
theorem js_O {te : TE} {d : Nat} {a : Addr} {c : Cnd} (hc : CondAt K H a c) (hd : c.deep < d) (hf : c.fine) (hz : (acc ++ c.text).length ≤ sizeLine) (q : tJs ts (acc ++ c.text) σ H Q) (h : ∀ Q', Q' (.ref a) H → te σ H Q') : tJs ((fun σ H Q => ∃ c : Cnd, tFmtRO (ga K c.cls) (SpR K c.cls d) E te σ H Q) :: ts) acc σ H Q := by
  refine ⟨c, h _ ?_⟩
  obtain ⟨dx, p, l, us, sh, e1, _⟩ := hc.shp
  have hz2 : c.text.length ≤ sizeLine := by rw [Str.length_append] at hz; omega
  exact ⟨a, dx, _, rfl, e1, a, c, rfl, hc, rfl, hd, hf, hz2, _, rfl, hz2, _, rfl, hz, q⟩
end

theorem sc_Begins_repr : FnScope ["self"] ["self"] (defScope s_Begins_repr) := ⟨rfl, rfl, rfl, by decide +kernel, rfl, by decide +kernel, by decide +kernel⟩
theorem ok_Begins_repr {P : Program} {w : World} {K : Frag} {mg : Str → Option Value} {base : Heap} (T : TxtP P K mg) {d : Nat} : FnB P w K mg base (d + 20 + 1) (mtA "Begins" "__repr__" K) (SpR K "Begins" (d + 1)) := by
  refine okD (N := ["self"]) (ps := ["self"]) (k := d + 20) (d := g_Begins_repr) T.d_Begins_repr rfl sc_Begins_repr (fun vs H Q E h => ?_) (fun _ _ _ _ _ _ us hl => match us, hl with | [_], _ => rfl) (fun A outer s H vs Q E hr h => ?_)
  · obtain ⟨x, c, rfl, hx, cc, dd, ff, hz, q⟩ := h
    rfl
  · have hrn := hr
    replace hr : Rm 20 _ := hr.mono (by omega)
    have hu := hr.hu
    obtain ⟨x, c, rfl, hx, cc, dd, ff, hz, q⟩ := h
    refine ⟨_, PSs.nox ((pss_one (ps_ret (pe_joined (pj_cons pe_str (pj_cons (pe_fmtR (pe_ix ix_tup (pe_fld (pv 0) rfl) pe_int (fun _ _ => rfl))) (pj_cons pe_str pj_nil))))))), ?_⟩
    obtain ⟨t, rfl⟩ := cls_beg cc
    obtain ⟨dx, p, l, us, h1, h2, h3, h4⟩ := hx
    walk_at "nm"
    refine js_0 (by first | (simp only [Cnd.text, Str.length_append] at hz ⊢; omega) | (simp only [Cnd.text, Str.length_append] at hz; omega)) ?_
    refine js_R (by first | (simp only [Cnd.text, Str.length_append] at hz ⊢; omega) | (simp only [Cnd.text, Str.length_append] at hz; omega)) ?_ (fun Q' q' => ixShp (i := 1) rfl h1 T.c_Begins T.n_Begins_own_shape h2 rfl q')
    refine js_c (by first | (simp only [Cnd.text, Str.length_append] at hz ⊢; omega) | (simp only [Cnd.text, Str.length_append] at hz; omega)) ?_
    exact q

theorem sc_Length_repr : FnScope ["self"] ["self"] (defScope s_Length_repr) := ⟨rfl, rfl, rfl, by decide +kernel, rfl, by decide +kernel, by decide +kernel⟩
theorem ok_Length_repr {P : Program} {w : World} {K : Frag} {mg : Str → Option Value} {base : Heap} (T : TxtP P K mg) {d : Nat} : FnB P w K mg base (d + 20 + 1) (mtA "Length" "__repr__" K) (SpR K "Length" (d + 1)) := by
  refine okD (N := ["self"]) (ps := ["self"]) (k := d + 20) (d := g_Length_repr) T.d_Length_repr rfl sc_Length_repr (fun vs H Q E h => ?_) (fun _ _ _ _ _ _ us hl => match us, hl with | [_], _ => rfl) (fun A outer s H vs Q E hr h => ?_)
  · obtain ⟨x, c, rfl, hx, cc, dd, ff, hz, q⟩ := h
    rfl
  · have hrn := hr
    replace hr : Rm 20 _ := hr.mono (by omega)
    have hu := hr.hu
    obtain ⟨x, c, rfl, hx, cc, dd, ff, hz, q⟩ := h
    refine ⟨_, PSs.nox ((pss_one (ps_ret (pe_joined (pj_cons pe_str (pj_cons (pe_fmt (pe_ix ix_tup (pe_fld (pv 0) rfl) pe_int (fun _ _ => rfl))) (pj_cons pe_str (pj_cons (pe_fmt (pe_ix ix_tup (pe_fld (pv 0) rfl) pe_int (fun _ _ => rfl))) (pj_cons pe_str pj_nil))))))))), ?_⟩
    obtain ⟨a, b, rfl⟩ := cls_len cc
    obtain ⟨dx, p, l, us, h1, h2, h3, h4⟩ := hx
    walk_at "nm"
    refine js_0 (by first | (simp only [Cnd.text, Str.length_append] at hz ⊢; omega) | (simp only [Cnd.text, Str.length_append] at hz; omega)) ?_
    obtain ⟨f1, f2, f3⟩ := ff
    refine js_i (log_small (by omega) (by omega)) (by first | (simp only [Cnd.text, Str.length_append] at hz ⊢; omega) | (simp only [Cnd.text, Str.length_append] at hz; omega)) ?_ (fun Q' q' => ixShp (i := 1) rfl h1 T.c_Length T.n_Length_own_shape h2 rfl q')
    refine js_c (by first | (simp only [Cnd.text, Str.length_append] at hz ⊢; omega) | (simp only [Cnd.text, Str.length_append] at hz; omega)) ?_
    refine js_i (log_small (by omega) (by omega)) (by first | (simp only [Cnd.text, Str.length_append] at hz ⊢; omega) | (simp only [Cnd.text, Str.length_append] at hz; omega)) ?_ (fun Q' q' => ixShp (i := 2) rfl h1 T.c_Length T.n_Length_own_shape h2 rfl q')
    refine js_c (by first | (simp only [Cnd.text, Str.length_append] at hz ⊢; omega) | (simp only [Cnd.text, Str.length_append] at hz; omega)) ?_
    exact q

theorem sc_Value_repr : FnScope ["self"] ["self"] (defScope s_Value_repr) := ⟨rfl, rfl, rfl, by decide +kernel, rfl, by decide +kernel, by decide +kernel⟩
theorem ok_Value_repr {P : Program} {w : World} {K : Frag} {mg : Str → Option Value} {base : Heap} (T : TxtP P K mg) {d : Nat} : FnB P w K mg base (d + 20 + 1) (mtA "Value" "__repr__" K) (SpR K "Value" (d + 1)) := by
  refine okD (N := ["self"]) (ps := ["self"]) (k := d + 20) (d := g_Value_repr) T.d_Value_repr rfl sc_Value_repr (fun vs H Q E h => ?_) (fun _ _ _ _ _ _ us hl => match us, hl with | [_], _ => rfl) (fun A outer s H vs Q E hr h => ?_)
  · obtain ⟨x, c, rfl, hx, cc, dd, ff, hz, q⟩ := h
    rfl
  · have hrn := hr
    replace hr : Rm 20 _ := hr.mono (by omega)
    have hu := hr.hu
    obtain ⟨x, c, rfl, hx, cc, dd, ff, hz, q⟩ := h
    refine ⟨_, PSs.nox ((pss_one (ps_ret (pe_joined (pj_cons pe_str (pj_cons (pe_fmtRN (pe_ix ix_tup (pe_fld (pv 0) rfl) pe_int (fun _ _ => rfl))) (pj_cons pe_str (pj_cons (pe_fmtRN (pe_ix ix_tup (pe_fld (pv 0) rfl) pe_int (fun _ _ => rfl))) (pj_cons pe_str pj_nil))))))))), ?_⟩
    obtain ⟨a, b, rfl⟩ := cls_val cc
    obtain ⟨dx, p, l, us, h1, h2, h3, h4⟩ := hx
    walk_at "nm"
    refine js_0 (by first | (simp only [Cnd.text, Str.length_append] at hz ⊢; omega) | (simp only [Cnd.text, Str.length_append] at hz; omega)) ?_
    obtain ⟨f1, f2, f3⟩ := ff
    refine js_N f1 (by first | (simp only [Cnd.text, Str.length_append] at hz ⊢; omega) | (simp only [Cnd.text, Str.length_append] at hz; omega)) ?_ (fun Q' q' => ixShp (i := 1) rfl h1 T.c_Value T.n_Value_own_shape h2 rfl q')
    refine js_c (by first | (simp only [Cnd.text, Str.length_append] at hz ⊢; omega) | (simp only [Cnd.text, Str.length_append] at hz; omega)) ?_
    refine js_N f2 (by first | (simp only [Cnd.text, Str.length_append] at hz ⊢; omega) | (simp only [Cnd.text, Str.length_append] at hz; omega)) ?_ (fun Q' q' => ixShp (i := 2) rfl h1 T.c_Value T.n_Value_own_shape h2 rfl q')
    refine js_c (by first | (simp only [Cnd.text, Str.length_append] at hz ⊢; omega) | (simp only [Cnd.text, Str.length_append] at hz; omega)) ?_
    exact q

theorem sc_Both_repr : FnScope ["self"] ["self"] (defScope s_Both_repr) := ⟨rfl, rfl, rfl, by decide +kernel, rfl, by decide +kernel, by decide +kernel⟩
theorem ok_Both_repr {P : Program} {w : World} {K : Frag} {mg : Str → Option Value} {base : Heap} (T : TxtP P K mg) {d : Nat} (IH : ReprOk P w K mg base (d + 20) d) : FnB P w K mg base (d + 20 + 1) (mtA "Both" "__repr__" K) (SpR K "Both" (d + 1)) := by
  refine okD (N := ["self"]) (ps := ["self"]) (k := d + 20) (d := g_Both_repr) T.d_Both_repr rfl sc_Both_repr (fun vs H Q E h => ?_) (fun _ _ _ _ _ _ us hl => match us, hl with | [_], _ => rfl) (fun A outer s H vs Q E hr h => ?_)
  · obtain ⟨x, c, rfl, hx, cc, dd, ff, hz, q⟩ := h
    rfl
  · have hrn := hr
    replace hr : Rm 20 _ := hr.mono (by omega)
    have hu := hr.hu
    obtain ⟨x, c, rfl, hx, cc, dd, ff, hz, q⟩ := h
    refine ⟨_, PSs.nox ((pss_one (ps_ret (pe_joined (pj_cons pe_str (pj_cons (pe_exI fun c => pe_fmtRO (mt_repr T.toTxt c) (IH c) hrn passL (pe_ix ix_tup (pe_fld (pv 0) rfl) pe_int (fun _ _ => rfl)) (Nat.le_refl _)) (pj_cons pe_str (pj_cons (pe_exI fun c => pe_fmtRO (mt_repr T.toTxt c) (IH c) hrn passL (pe_ix ix_tup (pe_fld (pv 0) rfl) pe_int (fun _ _ => rfl)) (Nat.le_refl _)) (pj_cons pe_str pj_nil))))))))), ?_⟩
    obtain ⟨c1, c2, rfl⟩ := cls_both cc
    obtain ⟨b1, b2, ⟨dx, p, l, us, h1, h2, h3, h4⟩, hc1, hc2⟩ := hx
    have dd : max c1.deep c2.deep + 1 < d + 1 := dd
    obtain ⟨f1, f2⟩ := ff
    walk_at "nm"
    refine js_0 (by first | (simp only [Cnd.text, Str.length_append] at hz ⊢; omega) | (simp only [Cnd.text, Str.length_append] at hz; omega)) ?_
    refine js_O hc1 (by omega) f1 (by first | (simp only [Cnd.text, Str.length_append] at hz ⊢; omega) | (simp only [Cnd.text, Str.length_append] at hz; omega)) ?_ (fun Q' q' => ixShp (i := 1) rfl h1 T.c_Both T.n_Both_own_shape h2 rfl q')
    refine js_c (by first | (simp only [Cnd.text, Str.length_append] at hz ⊢; omega) | (simp only [Cnd.text, Str.length_append] at hz; omega)) ?_
    refine js_O hc2 (by omega) f2 (by first | (simp only [Cnd.text, Str.length_append] at hz ⊢; omega) | (simp only [Cnd.text, Str.length_append] at hz; omega)) ?_ (fun Q' q' => ixShp (i := 2) rfl h1 T.c_Both T.n_Both_own_shape h2 rfl q')
    refine js_c (by first | (simp only [Cnd.text, Str.length_append] at hz ⊢; omega) | (simp only [Cnd.text, Str.length_append] at hz; omega)) ?_
    exact q

theorem sc_Either_repr : FnScope ["self"] ["self"] (defScope s_Either_repr) := ⟨rfl, rfl, rfl, by decide +kernel, rfl, by decide +kernel, by decide +kernel⟩
theorem ok_Either_repr {P : Program} {w : World} {K : Frag} {mg : Str → Option Value} {base : Heap} (T : TxtP P K mg) {d : Nat} (IH : ReprOk P w K mg base (d + 20) d) : FnB P w K mg base (d + 20 + 1) (mtA "Either" "__repr__" K) (SpR K "Either" (d + 1)) := by
  refine okD (N := ["self"]) (ps := ["self"]) (k := d + 20) (d := g_Either_repr) T.d_Either_repr rfl sc_Either_repr (fun vs H Q E h => ?_) (fun _ _ _ _ _ _ us hl => match us, hl with | [_], _ => rfl) (fun A outer s H vs Q E hr h => ?_)
  · obtain ⟨x, c, rfl, hx, cc, dd, ff, hz, q⟩ := h
    rfl
  · have hrn := hr
    replace hr : Rm 20 _ := hr.mono (by omega)
    have hu := hr.hu
    obtain ⟨x, c, rfl, hx, cc, dd, ff, hz, q⟩ := h
    refine ⟨_, PSs.nox ((pss_one (ps_ret (pe_joined (pj_cons pe_str (pj_cons (pe_exI fun c => pe_fmtRO (mt_repr T.toTxt c) (IH c) hrn passL (pe_ix ix_tup (pe_fld (pv 0) rfl) pe_int (fun _ _ => rfl)) (Nat.le_refl _)) (pj_cons pe_str (pj_cons (pe_exI fun c => pe_fmtRO (mt_repr T.toTxt c) (IH c) hrn passL (pe_ix ix_tup (pe_fld (pv 0) rfl) pe_int (fun _ _ => rfl)) (Nat.le_refl _)) (pj_cons pe_str pj_nil))))))))), ?_⟩
    obtain ⟨c1, c2, rfl⟩ := cls_either cc
    obtain ⟨b1, b2, ⟨dx, p, l, us, h1, h2, h3, h4⟩, hc1, hc2⟩ := hx
    have dd : max c1.deep c2.deep + 1 < d + 1 := dd
    obtain ⟨f1, f2⟩ := ff
    walk_at "nm"
    refine js_0 (by first | (simp only [Cnd.text, Str.length_append] at hz ⊢; omega) | (simp only [Cnd.text, Str.length_append] at hz; omega)) ?_
    refine js_O hc1 (by omega) f1 (by first | (simp only [Cnd.text, Str.length_append] at hz ⊢; omega) | (simp only [Cnd.text, Str.length_append] at hz; omega)) ?_ (fun Q' q' => ixShp (i := 1) rfl h1 T.c_Either T.n_Either_own_shape h2 rfl q')
    refine js_c (by first | (simp only [Cnd.text, Str.length_append] at hz ⊢; omega) | (simp only [Cnd.text, Str.length_append] at hz; omega)) ?_
    refine js_O hc2 (by omega) f2 (by first | (simp only [Cnd.text, Str.length_append] at hz ⊢; omega) | (simp only [Cnd.text, Str.length_append] at hz; omega)) ?_ (fun Q' q' => ixShp (i := 2) rfl h1 T.c_Either T.n_Either_own_shape h2 rfl q')
    refine js_c (by first | (simp only [Cnd.text, Str.length_append] at hz ⊢; omega) | (simp only [Cnd.text, Str.length_append] at hz; omega)) ?_
    exact q

theorem sc_Opposite_repr : FnScope ["self"] ["self"] (defScope s_Opposite_repr) := ⟨rfl, rfl, rfl, by decide +kernel, rfl, by decide +kernel, by decide +kernel⟩
theorem ok_Opposite_repr {P : Program} {w : World} {K : Frag} {mg : Str → Option Value} {base : Heap} (T : TxtP P K mg) {d : Nat} (IH : ReprOk P w K mg base (d + 20) d) : FnB P w K mg base (d + 20 + 1) (mtA "Opposite" "__repr__" K) (SpR K "Opposite" (d + 1)) := by
  refine okD (N := ["self"]) (ps := ["self"]) (k := d + 20) (d := g_Opposite_repr) T.d_Opposite_repr rfl sc_Opposite_repr (fun vs H Q E h => ?_) (fun _ _ _ _ _ _ us hl => match us, hl with | [_], _ => rfl) (fun A outer s H vs Q E hr h => ?_)
  · obtain ⟨x, c, rfl, hx, cc, dd, ff, hz, q⟩ := h
    rfl
  · have hrn := hr
    replace hr : Rm 20 _ := hr.mono (by omega)
    have hu := hr.hu
    obtain ⟨x, c, rfl, hx, cc, dd, ff, hz, q⟩ := h
    refine ⟨_, PSs.nox ((pss_one (ps_ret (pe_joined (pj_cons pe_str (pj_cons (pe_exI fun c => pe_fmtRO (mt_repr T.toTxt c) (IH c) hrn passL (pe_ix ix_tup (pe_fld (pv 0) rfl) pe_int (fun _ _ => rfl)) (Nat.le_refl _)) pj_nil)))))), ?_⟩
    obtain ⟨c1, rfl⟩ := cls_opp cc
    obtain ⟨b1, ⟨dx, p, l, us, h1, h2, h3, h4⟩, hc1⟩ := hx
    have dd : c1.deep + 1 < d + 1 := dd
    walk_at "nm"
    refine js_0 (by first | (simp only [Cnd.text, Str.length_append] at hz ⊢; omega) | (simp only [Cnd.text, Str.length_append] at hz; omega)) ?_
    refine js_O hc1 (by omega) ff (by first | (simp only [Cnd.text, Str.length_append] at hz ⊢; omega) | (simp only [Cnd.text, Str.length_append] at hz; omega)) ?_ (fun Q' q' => ixShp (i := 1) rfl h1 T.c_Opposite T.n_Opposite_own_shape h2 rfl q')
    exact q

theorem repr_all {P : Program} {w : World} {K : Frag} {mg : Str → Option Value} {base : Heap} (T : TxtP P K mg) : ∀ d, ReprOk P w K mg base (d + 20) d
  | 0 => fun c => FnB.none (mt_repr T.toTxt c).kp fun vs H Q E ⟨_, _, _, _, _, h, _⟩ => absurd h (Nat.not_lt_zero _)
  | d + 1 => fun c => FnB.mono (match c with
    | .beg _ => ok_Begins_repr T
    | .len _ _ => ok_Length_repr T
    | .val _ _ => ok_Value_repr T
    | .both _ _ => ok_Both_repr T (repr_all T d)
    | .either _ _ => ok_Either_repr T (repr_all T d)
    | .opp _ => ok_Opposite_repr T (repr_all T d)) (by omega)

/-! == of conditions -/
def SpEq (K : Frag) (d : Nat) : Sp := fun vs H Q _ => ∃ (x : Addr) (y : V) (c : Cnd), vs = [.ref x, y] ∧ CondAt K H x c ∧ ((∃ (b : Addr) (c' : Cnd), y = .ref b ∧ CondAt K H b c' ∧ c.deep < d ∧ Q (.bl (decide (c = c'))) H) ∨ (0 < d ∧ ∃ k, Is K H y k ∧ (∀ a D, k ≠ .ins a D) ∧ Q (.bl false) H))
def EqOk (P : Program) (w : World) (K : Frag) (mg : Str → Option Value) (base : Heap) (n d : Nat) : Prop := FnB P w K mg base n (mtA "Condition" "__eq__" K) (SpEq K d)
section
variable {X : Cx} {mg' : Str → Option Value} {n d : Nat} {H : Hp}
theorem cond_rcD (T : Txt X.K mg') (IH : FnB X.prog X.w X.K X.mg X.base n (mtA "Condition" "__eq__" X.K) (SpEq X.K d)) (hx : Passes (L2.CX X.prog X.w) X E0) {a b : Addr} {c c' : Cnd} (ha : CondAt X.K H a c) (hb : CondAt X.K H b c') (hd : c.deep < d) : RcD X n (.ref a) (.ref b) (decide (c = c')) H := by
  obtain ⟨dx, p, q, us, sh, e1, _⟩ := ha.shp
  obtain ⟨dx', p', q', us', sh', f1, _⟩ := hb.shp
  exact rcD_ins (mt_eq T c) IH e1 f1 (T.cn.notFirst (cls_six c) (cls_six c')) (fun Q q => ⟨a, .ref b, c, rfl, ha, .inl ⟨b, c', rfl, hb, hd, q⟩⟩) hx
theorem cond_eqD (T : Txt X.K mg') (IH : FnB X.prog X.w X.K X.mg X.base n (mtA "Condition" "__eq__" X.K) (SpEq X.K d)) (hx : Passes (L2.CX X.prog X.w) X E0) {a b : Addr} {c c' : Cnd} (ha : CondAt X.K H a c) (hb : CondAt X.K H b c') (hd : c.deep < d) : EqD X n (.ref a) (.ref b) (decide (c = c')) H :=
  (cond_rcD T IH hx ha hb hd).eqD fun e => by
    subst e
    exact decide_eq_true (cond_inj ha hb)
theorem oV_flat : ∀ o, flatV (oV o) = true
  | none => rfl
  | some _ => rfl
theorem oV_eq : ∀ a b, eqV (oV a) (oV b) = decide (a = b)
  | none, none => by simp [oV, eqV]
  | none, some _ => by simp [oV, eqV]
  | some _, none => by simp [oV, eqV]
  | some a, some b => by simp [oV, eqV]; try rfl
theorem allD3 {x0 x1 x2 y0 y1 y2 : V} {b0 b1 b2 : Bool} (h0 : EqD X n x0 y0 b0 H) (h1 : b0 = true → EqD X n x1 y1 b1 H) (h2 : b0 = true → b1 = true → EqD X n x2 y2 b2 H) : AllD X n [x0, x1, x2] [y0, y1, y2] (fun i => match i with | 0 => b0 | 1 => b1 | _ => b2) H := by
  unfold AllD
  intro i x y hall hx hy
  match i, hall, hx, hy with
  | 0, _, hx, hy =>
    cases hx; cases hy; exact h0
  | 1, hall, hx, hy =>
    cases hx; cases hy; exact h1 (hall 0 (by omega))
  | 2, hall, hx, hy =>
    cases hx; cases hy; exact h2 (hall 0 (by omega)) (hall 1 (by omega))
  | i + 3, _, hx, _ => cases hx
theorem allD2 {x0 x1 y0 y1 : V} {b0 b1 : Bool} (h0 : EqD X n x0 y0 b0 H) (h1 : b0 = true → EqD X n x1 y1 b1 H) : AllD X n [x0, x1] [y0, y1] (fun i => match i with | 0 => b0 | _ => b1) H := by
  unfold AllD
  intro i x y hall hx hy
  match i, hall, hx, hy with
  | 0, _, hx, hy =>
    cases hx; cases hy; exact h0
  | 1, hall, hx, hy =>
    cases hx; cases hy; exact h1 (hall 0 (by omega))
  | i + 2, _, hx, _ => cases hx
theorem allD1 {x0 y0 : V} {xs ys : List V} (h0 : EqD X n x0 y0 false H) : AllD X n (x0 :: xs) (y0 :: ys) (fun _ => false) H := by
  unfold AllD
  intro i x y hall hx hy
  cases i with
  | zero => cases hx; cases hy; exact h0
  | succ i => exact Bool.noConfusion (hall 0 (by omega))
theorem rcD_first {p q : Addr} {s t : Str} {xs ys : List V} (hp : H p = some (.tup (.str s :: xs))) (hq : H q = some (.tup (.str t :: ys))) (h : eqV (.str s) (.str t) = false) : RcD X (n + 1) (.ref p) (.ref q) false H := by
  have h0 : EqD X n (.str s) (.str t) false H := by
    rw [← h]
    exact eqD_flat rfl rfl
  refine rcD_tup hp hq (allD1 h0) ?_
  rw [List.length_cons, List.length_cons]
  have : min (xs.length + 1) (ys.length + 1) = min xs.length ys.length + 1 := by omega
  rw [this, List.range_succ_eq_map]
  rfl
theorem flat_same (s : Str) : EqD X n (.str s) (.str s) true H := by
  have := eqD_flat (X := X) (n := n) (H := H) (x := .str s) (y := .str s) rfl rfl
  have e : eqV (.str s) (.str s) = true := by simp [eqV]
  rw [e] at this
  exact this
theorem flat_eq {x y : V} {b : Bool} (fx : flatV x = true) (fy : flatV y = true) (e : eqV x y = b) : EqD X n x y b H := by
  rw [← e]
  exact eqD_flat fx fy
theorem shp_rc (T : Txt X.K mg') (IH : FnB X.prog X.w X.K X.mg X.base n (mtA "Condition" "__eq__" X.K) (SpEq X.K d)) (hx : Passes (L2.CX X.prog X.w) X E0) {p q : Addr} {sh sh' : List V} {c c' : Cnd} (h1 : H p = some (.tup sh)) (s1 : Shp X.K H sh c) (h2 : H q = some (.tup sh')) (s2 : Shp X.K H sh' c') (hd : c.deep < d + 1) : RcD X (n + 1) (.ref p) (.ref q) (decide (c = c')) H := by
  have fls : ∀ {s t : Str} {xs ys : List V}, H p = some (.tup (.str s :: xs)) → H q = some (.tup (.str t :: ys)) → eqV (.str s) (.str t) = false → c ≠ c' → RcD X (n + 1) (.ref p) (.ref q) (decide (c = c')) H := fun a b e ne => by
    rw [decide_eq_false ne]
    exact rcD_first a b e
  cases c with
  | beg t =>
    cases s1
    cases c' with
    | beg t' =>
      cases s2
      refine rcD_tup h1 h2 (allD2 (flat_same _) fun _ => flat_eq (b := decide (t = t')) rfl rfl (by simp [eqV]; try rfl)) ?_
      show _ = ((true && (decide (t = t') && true)) && true)
      simp
    | len _ _ => cases s2; exact fls h1 h2 (by decide +kernel) (by simp)
    | val _ _ => cases s2; exact fls h1 h2 (by decide +kernel) (by simp)
    | both _ _ => obtain ⟨_, _, rfl, _⟩ := s2; exact fls h1 h2 (by decide +kernel) (by simp)
    | either _ _ => obtain ⟨_, _, rfl, _⟩ := s2; exact fls h1 h2 (by decide +kernel) (by simp)
    | opp _ => obtain ⟨_, rfl, _⟩ := s2; exact fls h1 h2 (by decide +kernel) (by simp)
  | len a b =>
    cases s1
    cases c' with
    | len a' b' =>
      cases s2
      refine rcD_tup h1 h2 (allD3 (flat_same _) (fun _ => flat_eq (b := decide (a = a')) rfl rfl (by simp [eqV]; try rfl)) fun _ _ => flat_eq (b := decide (b = b')) rfl rfl (by simp [eqV]; try rfl)) ?_
      show _ = ((true && (decide (a = a') && (decide (b = b') && true))) && true)
      simp
    | beg _ => cases s2; exact fls h1 h2 (by decide +kernel) (by simp)
    | val _ _ => cases s2; exact fls h1 h2 (by decide +kernel) (by simp)
    | both _ _ => obtain ⟨_, _, rfl, _⟩ := s2; exact fls h1 h2 (by decide +kernel) (by simp)
    | either _ _ => obtain ⟨_, _, rfl, _⟩ := s2; exact fls h1 h2 (by decide +kernel) (by simp)
    | opp _ => obtain ⟨_, rfl, _⟩ := s2; exact fls h1 h2 (by decide +kernel) (by simp)
  | val a b =>
    cases s1
    cases c' with
    | val a' b' =>
      cases s2
      refine rcD_tup h1 h2 (allD3 (flat_same _) (fun _ => flat_eq (oV_flat _) (oV_flat _) (oV_eq a a')) fun _ _ => flat_eq (oV_flat _) (oV_flat _) (oV_eq b b')) ?_
      show _ = ((true && (decide (a = a') && (decide (b = b') && true))) && true)
      simp
    | beg _ => cases s2; exact fls h1 h2 (by decide +kernel) (by simp)
    | len _ _ => cases s2; exact fls h1 h2 (by decide +kernel) (by simp)
    | both _ _ => obtain ⟨_, _, rfl, _⟩ := s2; exact fls h1 h2 (by decide +kernel) (by simp)
    | either _ _ => obtain ⟨_, _, rfl, _⟩ := s2; exact fls h1 h2 (by decide +kernel) (by simp)
    | opp _ => obtain ⟨_, rfl, _⟩ := s2; exact fls h1 h2 (by decide +kernel) (by simp)
  | both x y =>
    obtain ⟨a, b, rfl, ha, hb⟩ := s1
    have hd' : max x.deep y.deep + 1 < d + 1 := hd
    cases c' with
    | both x' y' =>
      obtain ⟨a', b', rfl, ha', hb'⟩ := s2
      refine rcD_tup h1 h2 (allD3 (flat_same _) (fun _ => cond_eqD T IH hx ha ha' (by omega)) fun _ _ => cond_eqD T IH hx hb hb' (by omega)) ?_
      show _ = ((true && (decide (x = x') && (decide (y = y') && true))) && true)
      simp
    | beg _ => cases s2; exact fls h1 h2 (by decide +kernel) (by simp)
    | len _ _ => cases s2; exact fls h1 h2 (by decide +kernel) (by simp)
    | val _ _ => cases s2; exact fls h1 h2 (by decide +kernel) (by simp)
    | either _ _ => obtain ⟨_, _, rfl, _⟩ := s2; exact fls h1 h2 (by decide +kernel) (by simp)
    | opp _ => obtain ⟨_, rfl, _⟩ := s2; exact fls h1 h2 (by decide +kernel) (by simp)
  | either x y =>
    obtain ⟨a, b, rfl, ha, hb⟩ := s1
    have hd' : max x.deep y.deep + 1 < d + 1 := hd
    cases c' with
    | either x' y' =>
      obtain ⟨a', b', rfl, ha', hb'⟩ := s2
      refine rcD_tup h1 h2 (allD3 (flat_same _) (fun _ => cond_eqD T IH hx ha ha' (by omega)) fun _ _ => cond_eqD T IH hx hb hb' (by omega)) ?_
      show _ = ((true && (decide (x = x') && (decide (y = y') && true))) && true)
      simp
    | beg _ => cases s2; exact fls h1 h2 (by decide +kernel) (by simp)
    | len _ _ => cases s2; exact fls h1 h2 (by decide +kernel) (by simp)
    | val _ _ => cases s2; exact fls h1 h2 (by decide +kernel) (by simp)
    | both _ _ => obtain ⟨_, _, rfl, _⟩ := s2; exact fls h1 h2 (by decide +kernel) (by simp)
    | opp _ => obtain ⟨_, rfl, _⟩ := s2; exact fls h1 h2 (by decide +kernel) (by simp)
  | opp x =>
    obtain ⟨a, rfl, ha⟩ := s1
    have hd' : x.deep + 1 < d + 1 := hd
    cases c' with
    | opp x' =>
      obtain ⟨a', rfl, ha'⟩ := s2
      refine rcD_tup h1 h2 (allD2 (flat_same _) fun _ => cond_eqD T IH hx ha ha' (by omega)) ?_
      show _ = ((true && (decide (x = x') && true)) && true)
      simp
    | beg _ => cases s2; exact fls h1 h2 (by decide +kernel) (by simp)
    | len _ _ => cases s2; exact fls h1 h2 (by decide +kernel) (by simp)
    | val _ _ => cases s2; exact fls h1 h2 (by decide +kernel) (by simp)
    | both _ _ => obtain ⟨_, _, rfl, _⟩ := s2; exact fls h1 h2 (by decide +kernel) (by simp)
    | either _ _ => obtain ⟨_, _, rfl, _⟩ := s2; exact fls h1 h2 (by decide +kernel) (by simp)
end
theorem isiCnd {K : Frag} {mg : Str → Option Value} (T : Txt K mg) {H : Hp} {a : Addr} {c : Cnd} {Q : VK} (h : CondAt K H a c) (q : Q (.bl true) H) : rIsi K [.ref a, .ref (ga K "Condition")] H Q := by
  obtain ⟨dx, p, l, us, sh, e1, _⟩ := h.shp
  exact ⟨.ref a, .ref (ga K "Condition"), .ref (ga K c.cls), .ref (ga K "Condition"), true, rfl, .own _, (Is.ins e1 (own_c T c)).tyx, T.cn.kit _ (cls_six c), q⟩
theorem isiNo {K : Frag} {mg : Str → Option Value} (T : Txt K mg) {H : Hp} {x : V} {k : Kn} {Q : VK} (h : Is K H x k) (n : ∀ a D, k ≠ .ins a D) (q : Q (.bl false) H) : rIsi K [x, .ref (ga K "Condition")] H Q := by
  have e : k.isC (ga K "Condition") = false := by
    cases k with
    | ins a D => exact absurd rfl (n a D)
    | _ => rfl
  refine isiC h T.q_Condition (fun a D e => absurd e (n a D)) ?_
  rw [e]
  exact q

def sp_Condition_parts (K : Frag) : Sp := fun vs H Q _ => ∃ (x C dx : Addr) (p q : V), vs = [.ref x] ∧ H x = some (.ins C dx [("own_shape", p), ("own_simple", q)]) ∧ Cls K C ∧ NoAttr K C "own_shape" ∧ Q p H
theorem sc_Condition_parts : FnScope ["self"] ["self"] (defScope s_Condition_parts) := ⟨rfl, rfl, rfl, by decide +kernel, rfl, by decide +kernel, by decide +kernel⟩
theorem ok_Condition_parts {P : Program} {w : World} {K : Frag} {mg : Str → Option Value} {base : Heap} (T : TxtP P K mg) : FnB P w K mg base 1 (gtA "Condition" "parts" K) (sp_Condition_parts K) := by
  refine okD (N := ["self"]) (ps := ["self"]) (k := 0) (d := g_Condition_parts) T.d_Condition_parts rfl sc_Condition_parts (fun vs H Q E h => ?_) (fun _ _ _ _ _ _ us hl => match us, hl with | [_], _ => rfl) (fun A outer s H vs Q E hr h => ?_)
  · obtain ⟨x, C, dx, p, r, rfl, hx, cC, n1, q⟩ := h
    rfl
  · have hu := hr.hu
    obtain ⟨x, C, dx, p, r, rfl, hx, cC, n1, q⟩ := h
    refine ⟨_, PSs.nox ((pss_one (ps_ret (pe_fld (pv 0) rfl)))), ?_⟩
    walk_at "nm"
    exact ⟨_, rfl, x, C, dx, _, _, rfl, hx, cC, n1, (by walk_at "lk"), q⟩

def sp_Condition_len (K : Frag) : Sp := fun vs H Q _ => ∃ (x : Addr) (c : Cnd), vs = [.ref x] ∧ CondAt K H x c ∧ c.simple.length ≤ 1000 ∧ Q (.int c.simple.length) H
theorem sc_Condition_len : FnScope ["self"] ["self"] (defScope s_Condition_len) := ⟨rfl, rfl, rfl, by decide +kernel, rfl, by decide +kernel, by decide +kernel⟩
theorem ok_Condition_len {P : Program} {w : World} {K : Frag} {mg : Str → Option Value} {base : Heap} (T : TxtP P K mg) : FnB P w K mg base 1 (mtA "Condition" "__len__" K) (sp_Condition_len K) := by
  refine okD (N := ["self"]) (ps := ["self"]) (k := 0) (d := g_Condition_len) T.d_Condition_len rfl sc_Condition_len (fun vs H Q E h => ?_) (fun _ _ _ _ _ _ us hl => match us, hl with | [_], _ => rfl) (fun A outer s H vs Q E hr h => ?_)
  · obtain ⟨x, c, rfl, hx, hl, q⟩ := h
    rfl
  · have hu := hr.hu
    obtain ⟨x, c, rfl, hx, hl, q⟩ := h
    refine ⟨_, PSs.nox ((pss_one (ps_ret (pe_callB call_len_seq (by rfl) T.b_len (by decide +kernel) (pa_cons (pe_fld (pv 0) rfl) pa_nil))))), ?_⟩
    have k := clsOk T.toTxt c
    obtain ⟨dx, p, l, us, sh, e1, e2, e3, e4, e5⟩ := hx.shp
    walk_at "nm"
    refine ⟨_, rfl, x, _, dx, _, _, rfl, e1, k.c, k.n2, (by walk_at "lk"), ?_⟩
    refine ⟨l, rfl, _, .inl (SqL.of e4), ?_⟩
    rw [List.length_map, tups_len e5]
    exact q

def sp_check_simple (K : Frag) : Sp := fun vs H Q _ => ∃ (a b : Addr) (c d : Cnd), vs = [.ref a, .ref b] ∧ CondAt K H a c ∧ CondAt K H b d ∧ c.simple.length + d.simple.length ≤ 30 ∧ Q .non H
theorem sc_check_simple : FnScope ["one", "other"] ["one", "other"] (defScope s_check_simple) := ⟨rfl, rfl, rfl, by decide +kernel, rfl, by decide +kernel, by decide +kernel⟩
theorem ok_check_simple {P : Program} {w : World} {K : Frag} {mg : Str → Option Value} {base : Heap} (T : TxtP P K mg) : FnB P w K mg base 3 (glA "check_simple" K) (sp_check_simple K) := by
  refine okD (N := ["one", "other"]) (ps := ["one", "other"]) (k := 2) (d := g_check_simple) T.d_check_simple rfl sc_check_simple (fun vs H Q E h => ?_) (fun _ _ _ _ _ _ us hl => match us, hl with | [_, _], _ => rfl) (fun A outer s H vs Q E hr h => ?_)
  · obtain ⟨a, b, c, d, rfl, ha, hb, hl, q⟩ := h
    rfl
  · have hu := hr.hu
    obtain ⟨a, b, c, d, rfl, ha, hb, hl, q⟩ := h
    refine ⟨_, PSs.nox ((pss_one (ps_if (pt_cmpR op_gt (pe_op op_add (pe_callB (cr_exI fun c => call_lenO (mt_len T.toTxt c) (ok_Condition_len (K := K) T) hr passL) (by rfl) T.b_len (by decide +kernel) (pa_cons (pv 0) pa_nil)) (pe_callB (cr_exI fun c => call_lenO (mt_len T.toTxt c) (ok_Condition_len (K := K) T) hr passL) (by rfl) T.b_len (by decide +kernel) (pa_cons (pv 1) pa_nil))) (pe_gc (by rfl) (gint T.v_MOST_SIMPLE)) (nomark _))
        (pss_one ps_never)
        pss_nil))), ?_⟩
    walk_at "nm"
    refine ⟨c, ?_⟩
    obtain ⟨dx, p, l, us, sh, e1, _⟩ := ha.shp
    refine ⟨a, dx, _, rfl, e1, a, c, rfl, ha, by omega, _, rfl, by omega, d, ?_⟩
    obtain ⟨dy, p', l', us', sh', g1, _⟩ := hb.shp
    refine ⟨b, dy, _, rfl, g1, b, d, rfl, hb, by omega, _, rfl, by omega, _, rfl, _, rfl, ?_⟩
    rw [if_neg (by omega)]
    exact q

def sp_Condition_and (K : Frag) : Sp := fun vs H Q _ => ∃ (a b : Addr) (c d : Cnd), vs = [.ref a, .ref b] ∧ CondAt K H a c ∧ CondAt K H b d ∧ c.simple.length + d.simple.length ≤ 30 ∧
  ∀ x H', Same H H' → InsAt K H' x "Both" [.str "and", .ref a, .ref b] (c.simple ++ d.simple) → Q (.ref x) H'
theorem sc_Condition_and : FnScope ["self", "other"] ["self", "other"] (defScope s_Condition_and) := ⟨rfl, rfl, rfl, by decide +kernel, rfl, by decide +kernel, by decide +kernel⟩
theorem ok_Condition_and {P : Program} {w : World} {K : Frag} {mg : Str → Option Value} {base : Heap} (T : TxtP P K mg) : FnB P w K mg base 4 (mtA "Condition" "__and__" K) (sp_Condition_and K) := by
  refine okD (N := ["self", "other"]) (ps := ["self", "other"]) (k := 3) (d := g_Condition_and) T.d_Condition_and rfl sc_Condition_and (fun vs H Q E h => ?_) (fun _ _ _ _ _ _ us hl => match us, hl with | [_, _], _ => rfl) (fun A outer s H vs Q E hr h => ?_)
  · obtain ⟨a, b, c, d, rfl, ha, hb, hl, q⟩ := h
    rfl
  · have hu := hr.hu
    obtain ⟨a, b, c, d, rfl, ha, hb, hl, q⟩ := h
    refine ⟨_, PSs.nox ((pss_cons (ps_if (pt_not (pt_val (pe_callB call_isi (by rfl) T.b_isinstance (by decide +kernel) (pa_cons (pv 1) (pa_cons (pe_gc (v := .ref (ga K "Condition")) (by rfl) ⟨_, T.m_Condition, rfl⟩) pa_nil)))))
        (pss_one ps_never)
        pss_nil)
      (pss_cons (ps_expr (pe_cF (ok_check_simple (K := K) T) hr T.m_check_simple passL (pa_cons (pv 0) (pa_cons (pv 1) pa_nil))))
      (pss_one (ps_ret (pe_mkF T.k_Both (ok_Both_init (K := K) T) hr T.m_Both passL (pa_cons (pv 0) (pa_cons (pv 1) pa_nil)))))))), ?_⟩
    walk_at "nm"
    refine isiCnd T.toTxt hb ?_
    walk_at "nm"
    rw [if_neg (by decide)]
    refine ⟨a, b, c, d, rfl, ha, hb, hl, ?_⟩
    dsimp only [tMake]
    walk_at "nm"
    intro x dx nx ndx nex
    generalize hg : upd (upd _ dx _) x _ = H1
    have s1 := madeOf nx ndx nex hg
    have e1 := atOf hg
    clear hg
    refine ⟨x, dx, a, b, c, d, rfl, e1, ha.same s1, hb.same s1, by omega, fun H' hI _ _ ex => ⟨rfl, q x H' (fun b o e => ex b o (fun z => by rw [z, nx] at e; cases e) (s1 b o e)) hI⟩⟩

def sp_Condition_or (K : Frag) : Sp := fun vs H Q _ => ∃ (a b : Addr) (c d : Cnd), vs = [.ref a, .ref b] ∧ CondAt K H a c ∧ CondAt K H b d ∧ c.simple.length + d.simple.length ≤ 30 ∧
  ∀ x H', Same H H' → InsAt K H' x "Either" [.str "or", .ref a, .ref b] (c.simple ++ d.simple) → Q (.ref x) H'
theorem sc_Condition_or : FnScope ["self", "other"] ["self", "other"] (defScope s_Condition_or) := ⟨rfl, rfl, rfl, by decide +kernel, rfl, by decide +kernel, by decide +kernel⟩
theorem ok_Condition_or {P : Program} {w : World} {K : Frag} {mg : Str → Option Value} {base : Heap} (T : TxtP P K mg) : FnB P w K mg base 4 (mtA "Condition" "__or__" K) (sp_Condition_or K) := by
  refine okD (N := ["self", "other"]) (ps := ["self", "other"]) (k := 3) (d := g_Condition_or) T.d_Condition_or rfl sc_Condition_or (fun vs H Q E h => ?_) (fun _ _ _ _ _ _ us hl => match us, hl with | [_, _], _ => rfl) (fun A outer s H vs Q E hr h => ?_)
  · obtain ⟨a, b, c, d, rfl, ha, hb, hl, q⟩ := h
    rfl
  · have hu := hr.hu
    obtain ⟨a, b, c, d, rfl, ha, hb, hl, q⟩ := h
    refine ⟨_, PSs.nox ((pss_cons (ps_if (pt_not (pt_val (pe_callB call_isi (by rfl) T.b_isinstance (by decide +kernel) (pa_cons (pv 1) (pa_cons (pe_gc (v := .ref (ga K "Condition")) (by rfl) ⟨_, T.m_Condition, rfl⟩) pa_nil)))))
        (pss_one ps_never)
        pss_nil)
      (pss_cons (ps_expr (pe_cF (ok_check_simple (K := K) T) hr T.m_check_simple passL (pa_cons (pv 0) (pa_cons (pv 1) pa_nil))))
      (pss_one (ps_ret (pe_mkF T.k_Either (ok_Either_init (K := K) T) hr T.m_Either passL (pa_cons (pv 0) (pa_cons (pv 1) pa_nil)))))))), ?_⟩
    walk_at "nm"
    refine isiCnd T.toTxt hb ?_
    walk_at "nm"
    rw [if_neg (by decide)]
    refine ⟨a, b, c, d, rfl, ha, hb, hl, ?_⟩
    dsimp only [tMake]
    walk_at "nm"
    intro x dx nx ndx nex
    generalize hg : upd (upd _ dx _) x _ = H1
    have s1 := madeOf nx ndx nex hg
    have e1 := atOf hg
    clear hg
    refine ⟨x, dx, a, b, c, d, rfl, e1, ha.same s1, hb.same s1, by omega, fun H' hI _ _ ex => ⟨rfl, q x H' (fun b o e => ex b o (fun z => by rw [z, nx] at e; cases e) (s1 b o e)) hI⟩⟩

def sp_Condition_invert (K : Frag) : Sp := fun vs H Q _ => ∃ (a : Addr) (c : Cnd), vs = [.ref a] ∧ CondAt K H a c ∧
  ∀ x H', Same H H' → InsAt K H' x "Opposite" [.str "not", .ref a] c.simple → Q (.ref x) H'
theorem sc_Condition_invert : FnScope ["self"] ["self"] (defScope s_Condition_invert) := ⟨rfl, rfl, rfl, by decide +kernel, rfl, by decide +kernel, by decide +kernel⟩
theorem ok_Condition_invert {P : Program} {w : World} {K : Frag} {mg : Str → Option Value} {base : Heap} (T : TxtP P K mg) : FnB P w K mg base 4 (mtA "Condition" "__invert__" K) (sp_Condition_invert K) := by
  refine okD (N := ["self"]) (ps := ["self"]) (k := 3) (d := g_Condition_invert) T.d_Condition_invert rfl sc_Condition_invert (fun vs H Q E h => ?_) (fun _ _ _ _ _ _ us hl => match us, hl with | [_], _ => rfl) (fun A outer s H vs Q E hr h => ?_)
  · obtain ⟨a, c, rfl, ha, q⟩ := h
    rfl
  · have hu := hr.hu
    obtain ⟨a, c, rfl, ha, q⟩ := h
    refine ⟨_, PSs.nox ((pss_one (ps_ret (pe_mkF T.k_Opposite (ok_Opposite_init (K := K) T) hr T.m_Opposite passL (pa_cons (pv 0) pa_nil))))), ?_⟩
    walk_at "nm"
    dsimp only [tMake]
    walk_at "nm"
    intro x dx nx ndx nex
    generalize hg : upd (upd _ dx _) x _ = H1
    have s1 := madeOf nx ndx nex hg
    have e1 := atOf hg
    clear hg
    refine ⟨x, dx, a, c, rfl, e1, ha.same s1, fun H' hI _ ex => ⟨rfl, q x H' (fun b o e => ex b o (fun z => by rw [z, nx] at e; cases e) (s1 b o e)) hI⟩⟩

theorem sc_Condition_eq : FnScope ["self", "other"] ["self", "other"] (defScope s_Condition_eq) := ⟨rfl, rfl, rfl, by decide +kernel, rfl, by decide +kernel, by decide +kernel⟩
theorem ok_Condition_eq {P : Program} {w : World} {K : Frag} {mg : Str → Option Value} {base : Heap} (T : TxtP P K mg) {d : Nat} (IH : EqOk P w K mg base (d + d + 20) d) : FnB P w K mg base (d + d + 21 + 1) (mtA "Condition" "__eq__" K) (SpEq K (d + 1)) := by
  refine okD (N := ["self", "other"]) (ps := ["self", "other"]) (k := d + d + 21) (d := g_Condition_eq) T.d_Condition_eq rfl sc_Condition_eq (fun vs H Q E h => ?_) (fun _ _ _ _ _ _ us hl => match us, hl with | [_, _], _ => rfl) (fun A outer s H vs Q E hr h => ?_)
  · obtain ⟨x, y, c, rfl, hx, q⟩ := h
    rfl
  · have hrn := hr
    replace hr : Rm 20 _ := hr.mono (by omega)
    have hu := hr.hu
    obtain ⟨x, y, c, rfl, hx, q⟩ := h
    refine ⟨_, PSs.nox ((pss_one (ps_ret (pe_and (pe_callB call_isi (by rfl) T.b_isinstance (by decide +kernel) (pa_cons (pv 1) (pa_cons (pe_gc (v := .ref (ga K "Condition")) (by rfl) ⟨_, T.m_Condition, rfl⟩) pa_nil))) (pe_one (pe_cmpR (op_eqDc (n := _) hrn (Nat.le_refl _)) (pe_fld (pv 0) rfl) (pe_exI fun c => pe_prF (pv 1) (clsOk T.toTxt c).c (pr_parts T.toTxt c) (ok_Condition_parts (K := K) T) hr passL) (nomark _))))))), ?_⟩
    walk_at "nm"
    rcases q with ⟨b, c', rfl, hb, hd, q⟩ | ⟨_, k, hk, nk, q⟩
    · refine isiCnd T.toTxt hb ?_
      walk_at "nm"
      have k := clsOk T.toTxt c
      have k' := clsOk T.toTxt c'
      obtain ⟨dx, p, l, us, sh, e1, e2, e3, e4, e5⟩ := hx.shp
      obtain ⟨dy, p', l', us', sh', g1, g2, g3, g4, g5⟩ := hb.shp
      refine ⟨_, rfl, x, _, dx, _, _, rfl, e1, k.c, k.n1, (by walk_at "lk"), c', ?_⟩
      refine ⟨_, rfl, b, dy, _, rfl, g1, ?_⟩
      refine ⟨b, _, dy, _, _, rfl, g1, k'.c, k'.n1, ?_⟩
      exact ⟨_, shp_rc T.toTxt (by exact IH) (by exact passL) e2 e3 g2 g3 hd, q⟩
    · refine isiNo T.toTxt hk nk ?_
      walk_at "nm"
      exact q

def SpCall (K : Frag) : Sp := fun vs H Q _ => ∃ (x : Addr) (c : Cnd) (z : Str) (v : Int), vs = [.ref x, .str z, .int v] ∧ CondAt K H x c ∧ c.deep < 8 ∧ c.fine ∧ isKeyL z.cps.toList = true ∧ ∀ H', Same H H' → Q (.bl (c.holds z v)) H'

theorem sc_Condition_call : FnScope ["self", "key", "value"] ["self", "key", "value"] (defScope s_Condition_call) := ⟨rfl, rfl, rfl, by decide +kernel, rfl, by decide +kernel, by decide +kernel⟩
theorem ok_Condition_call {P : Program} {w : World} {K : Frag} {mg : Str → Option Value} {base : Heap} (T : TxtP P K mg)  : FnB P w K mg base (28 + 1) (mtA "Condition" "__call__" K) (SpCall K) := by
  refine okD (N := ["self", "key", "value"]) (ps := ["self", "key", "value"]) (k := 28) (d := g_Condition_call) T.d_Condition_call rfl sc_Condition_call (fun vs H Q E h => ?_) (fun _ _ _ _ _ _ us hl => match us, hl with | [_, _, _], _ => rfl) (fun A outer s H vs Q E hr h => ?_)
  · obtain ⟨x, c, z, v, rfl, hx, dd, ff, hz, q⟩ := h
    rfl
  · have hrn := hr
    replace hr : Rm 28 _ := hr.mono (by omega)
    have hu := hr.hu
    obtain ⟨x, c, z, v, rfl, hx, dd, ff, hz, q⟩ := h
    refine ⟨_, PSs.nox ((pss_cons (ps_expr (pe_cF (ok_check_key (K := K) T) hr T.m_check_key passL (pa_cons (pv 1) pa_nil)))
      (pss_cons (ps_expr (pe_cF (ok_check_value (K := K) T) hr T.m_check_value passL (pa_cons (pv 2) pa_nil)))
      (pss_one (ps_ret (pe_exI fun c => pe_mtF (pv 0) (clsOk T.toTxt c).c (mt_holds T.toTxt c) (holds_all T 8 c) hr passL (pa_cons (pv 1) (pa_cons (pv 2) pa_nil)) (by decide))))))), ?_⟩
    walk_at "nm"
    have hzl : z.length ≤ 20 := by
      unfold isKeyL at hz
      simp only [Bool.and_eq_true, decide_eq_true_eq] at hz
      have := str_len z
      omega
    refine ⟨_, _, rfl, .str z, (by show z.length ≤ 1000000; omega), fun _ H1 s1 => ?_, fun h => by rw [show (Kn.str z).isKey = isKeyL z.cps.toList from rfl, hz] at h; cases h⟩
    refine ⟨_, _, rfl, .int v, fun _ => ?_, fun h => by cases h⟩
    refine ⟨c, _, rfl, meth_c (hx.same s1) (by decide) (by decide) ?_⟩
    walk_at "nm"
    exact ⟨x, c, z, v, rfl, hx.same s1, rfl, dd, ff, (by omega), fun H2 s2 => q H2 (s1.trans s2)⟩

theorem eq_all {P : Program} {w : World} {K : Frag} {mg : Str → Option Value} {base : Heap} (T : TxtP P K mg) : ∀ d, EqOk P w K mg base (d + d + 20) d
  | 0 => FnB.none (mt_eq T.toTxt (.beg "")).kp fun vs H Q E h => by
    obtain ⟨x, y, c, _, hc, h⟩ := h
    rcases h with ⟨_, _, _, _, h, _⟩ | ⟨h, _⟩
    · exact absurd h (Nat.not_lt_zero _)
    · exact absurd h (Nat.lt_irrefl _)
  | d + 1 => FnB.mono (ok_Condition_eq T (eq_all T d)) (by omega)
def csK (K : Frag) : List Addr := six.map (ga K)
theorem six_cnd {s : Str} (h : s ∈ six) : ∃ c : Cnd, c.cls = s := by
  simp only [six, List.mem_cons, List.not_mem_nil, or_false] at h
  rcases h with rfl | rfl | rfl | rfl | rfl | rfl
  · exact ⟨.beg "", rfl⟩
  · exact ⟨.len 0 0, rfl⟩
  · exact ⟨.val none none, rfl⟩
  · exact ⟨.both (.beg "") (.beg ""), rfl⟩
  · exact ⟨.either (.beg "") (.beg ""), rfl⟩
  · exact ⟨.opp (.beg ""), rfl⟩
theorem csK_cnd {K : Frag} {C : Addr} (h : C ∈ csK K) : ∃ c : Cnd, ga K c.cls = C := by
  obtain ⟨s, hs, e⟩ := List.mem_map.mp h
  obtain ⟨c, rfl⟩ := six_cnd hs
  exact ⟨c, e⟩
theorem cnd_csK {K : Frag} (c : Cnd) : ga K c.cls ∈ csK K := List.mem_map.mpr ⟨_, cls_six c, rfl⟩
theorem un_inv {P : Program} {w : World} {K : Frag} {mg : Str → Option Value} {base : Heap} (T : TxtP P K mg) {j : Nat} (hj : 4 ≤ j) : ∀ C ∈ csK K, ∃ f, PySem.W.findIn K (.ref C) "__invert__" = some (some (.ref f)) ∧ PySem.W.isFn K (.ref f) = true ∧ ∃ k, k ≤ j ∧ FnB P w K mg base k f (sp_Condition_invert K) := by
  intro C hC
  obtain ⟨c, rfl⟩ := csK_cnd hC
  exact ⟨_, (mt_invert T.toTxt c).at_, (mt_invert T.toTxt c).fn, 4, hj, ok_Condition_invert T⟩
theorem bin_and {P : Program} {w : World} {K : Frag} {mg : Str → Option Value} {base : Heap} (T : TxtP P K mg) {j : Nat} (hj : 4 ≤ j) : ∀ C ∈ csK K, ∀ C2 ∈ csK K, ∃ f f2, BinOk K (Operator.BitAnd).info.2 C C2 f f2 ∧ ∃ k, k ≤ j ∧ FnB P w K mg base k f (sp_Condition_and K) := by
  intro C hC C2 hC2
  obtain ⟨c, rfl⟩ := csK_cnd hC
  obtain ⟨c2, rfl⟩ := csK_cnd hC2
  have h1 := mt_and T.toTxt c
  have h2 := mt_and T.toTxt c2
  exact ⟨_, _, ⟨T.cn.first _ (cls_six c), T.cn.first _ (cls_six c2), h1.at_, h1.fn, h2.at_, T.cn.rand _ (cls_six c), T.cn.rand _ (cls_six c2), fun ne => T.cn.sub _ (cls_six c) _ (cls_six c2) (fun z => ne (by rw [z]))⟩, 4, hj, ok_Condition_and T⟩
theorem bin_or {P : Program} {w : World} {K : Frag} {mg : Str → Option Value} {base : Heap} (T : TxtP P K mg) {j : Nat} (hj : 4 ≤ j) : ∀ C ∈ csK K, ∀ C2 ∈ csK K, ∃ f f2, BinOk K (Operator.BitOr).info.2 C C2 f f2 ∧ ∃ k, k ≤ j ∧ FnB P w K mg base k f (sp_Condition_or K) := by
  intro C hC C2 hC2
  obtain ⟨c, rfl⟩ := csK_cnd hC
  obtain ⟨c2, rfl⟩ := csK_cnd hC2
  have h1 := mt_or T.toTxt c
  have h2 := mt_or T.toTxt c2
  exact ⟨_, _, ⟨T.cn.first _ (cls_six c), T.cn.first _ (cls_six c2), h1.at_, h1.fn, h2.at_, T.cn.ror _ (cls_six c), T.cn.ror _ (cls_six c2), fun ne => T.cn.sub _ (cls_six c) _ (cls_six c2) (fun z => ne (by rw [z]))⟩, 4, hj, ok_Condition_or T⟩
section
variable {K : Frag} {H : Hp} {Q : VK} {E : XK} {sp : Sp} {a b : Addr} {c d : Cnd}
theorem inv_c (ha : CondAt K H a c) (q : sp [.ref a] H Q E) : rInvD (csK K) sp E (.ref a) H Q := by
  obtain ⟨dx, p, l, us, sh, e1, _⟩ := ha.shp
  exact ⟨_, cnd_csK c, a, dx, _, rfl, e1, q⟩
theorem bin_c (ha : CondAt K H a c) (hb : CondAt K H b d) (q : sp [.ref a, .ref b] H Q E) : rBinD (csK K) sp E (.ref a) (.ref b) H Q := by
  obtain ⟨dx, p, l, us, sh, e1, _⟩ := ha.shp
  obtain ⟨dy, p', l', us', sh', g1, _⟩ := hb.shp
  exact ⟨_, cnd_csK c, _, cnd_csK d, a, dx, _, b, dy, _, rfl, rfl, e1, g1, q⟩
end

theorem kpS {K : Frag} {d : DefG} (S : Stands K d) : PySem.W.keepIn K (.ref (d.ad K)) = true := by
  obtain ⟨fd, F⟩ := S
  exact F.kp
section
variable {K : Frag} {H H3 H4 H5 : Hp} {a x : Addr}
theorem if_eqI {i j : Int} {A B : Prop} (t : i = j → A) (f : i ≠ j → B) : ∃ k, V.bl (decide (V.int i = V.int j)) = V.bl k ∧ if k = true then A else B := by
  refine ⟨_, rfl, ?_⟩
  by_cases h : i = j
  · rw [if_pos (by simp [h])]; exact t h
  · rw [if_neg (by simp [h])]; exact f h
theorem if_eqS {s t : Str} {A B : Prop} (p : s = t → A) (f : s ≠ t → B) : ∃ k, V.bl (decide (V.str s = V.str t)) = V.bl k ∧ if k = true then A else B := by
  refine ⟨_, rfl, ?_⟩
  by_cases h : s = t
  · rw [if_pos (by simp [h])]; exact p h
  · rw [if_neg (by simp [h])]; exact f h
theorem ex_new (h : Ex a H H3) (nx : H3 x = none) (s : Same H3 H4) (e : Ex x H4 H5) : Ex a H H5 := fun b o n hb => e b o (fun z => by
  have q := h b o n hb
  rw [z, nx] at q
  cases q) (s b o (h b o n hb))
theorem pool_new (p : PoolAt H3 a) (nx : H3 x = none) (s : Same H3 H4) (e : Ex x H4 H5) : PoolAt H5 a := by
  obtain ⟨i, j, q⟩ := p
  exact ⟨i, j, e _ _ (fun z => by rw [z, nx] at q; cases q) (s _ _ q)⟩
theorem pick6 {v : Int} (h0 : 0 ≤ v) (h6 : v < 6) : ∃ t : Str, atI [V.str "", .str "a", .str "ab", .str "b", .str "0", .str "abz"] v = some (.str t) ∧ t.length ≤ 20 ∧ t.cps.toList.all keySign = true := by
  obtain rfl | rfl | rfl | rfl | rfl | rfl : v = 0 ∨ v = 1 ∨ v = 2 ∨ v = 3 ∨ v = 4 ∨ v = 5 := by omega
  all_goals exact ⟨_, rfl, by decide +kernel, by decide +kernel⟩
theorem pickO {i v : Int} (h0 : 0 ≤ v) (h2 : v < 2) : ∃ o : Option Int, atI [V.non, V.int i] v = some (oV o) ∧ (o = none ∨ o = some i) := by
  obtain rfl | rfl : v = 0 ∨ v = 1 := by omega
  · exact ⟨none, rfl, .inl rfl⟩
  · exact ⟨some i, rfl, .inr rfl⟩
theorem smO_of {o : Option Int} {i : Int} (h : o = none ∨ o = some i) (h1 : -100 ≤ i) (h2 : i ≤ 100) : smO o := fun j e => by
  rcases h with rfl | rfl
  · cases e
  · cases e
    exact ⟨h1, h2⟩
theorem pick2 {x y : V} {v : Int} (h0 : 0 ≤ v) (h2 : v < 2) : atI [x, y] v = some x ∨ atI [x, y] v = some y := by
  obtain rfl | rfl : v = 0 ∨ v = 1 := by omega
  · exact .inl rfl
  · exact .inr rfl
end
def SpC (K : Frag) (d : Nat) : Sp := fun vs H Q _ => ∃ (a : Addr) (n : Nat), vs = [.ref a, .int n] ∧ n < d ∧ n ≤ 4 ∧ PoolAt H a ∧ ∀ x c H', PoolAt H' a → Ex a H H' → CondAt K H' x c → c.deep ≤ n → c.fine → c.simple.length ≤ 2 ^ n → Q (.ref x) H'

theorem sc__law_condition : FnScope ["_law_pool", "_law_deep", "_law_way", "_law_one", "_law_other", "_law_least"] ["_law_pool", "_law_deep"] (defScope s__law_condition) := ⟨rfl, rfl, rfl, by decide +kernel, rfl, by decide +kernel, by decide +kernel⟩
theorem ok__law_condition {P : Program} {w : World} {K : Frag} {mg : Str → Option Value} {base : Heap} (T : TxtP P K mg) {d : Nat} (IH : FnB P w K mg base (d + 20) (glA "_law_condition" K) (SpC K d)) : FnB P w K mg base (d + 20 + 1) (glA "_law_condition" K) (SpC K (d + 1)) := by
  refine okD (N := ["_law_pool", "_law_deep", "_law_way", "_law_one", "_law_other", "_law_least"]) (ps := ["_law_pool", "_law_deep"]) (k := d + 20) (d := g__law_condition) T.d__law_condition rfl sc__law_condition (fun vs H Q E h => ?_) (fun _ _ _ _ _ _ us hl => match us, hl with | [_, _], _ => rfl) (fun A outer s H vs Q E hr h => ?_)
  · obtain ⟨a, n, rfl, hn, n6, hp, q⟩ := h
    rfl
  · have hrn := hr
    replace hr : Rm 20 _ := hr.mono (by omega)
    have hu := hr.hu
    obtain ⟨a, n, rfl, hn, n6, hp, q⟩ := h
    refine ⟨_, PSs.nox ((pss_cons (ps_set (i := 2) sc__law_condition.nd rfl (Or.inl rfl) (pe_ifExp (pt_cmpR op_gt (pv 1) pe_int (nomark _)) (pe_cF (ok__law_draw (K := K) T) hr T.m__law_draw passL (pa_cons (pv 0) (pa_cons pe_int pa_nil))) (pe_cF (ok__law_draw (K := K) T) hr T.m__law_draw passL (pa_cons (pv 0) (pa_cons pe_int pa_nil)))))
      (pss_cons (ps_if (pt_cmpR op_eq (pv 2) pe_int (nomark _))
        (pss_one (ps_ret (pe_mkF T.k_Begins (ok_Begins_init (K := K) T) hr T.m_Begins passL (pa_cons (pe_ix ix_list (pe_lst (pa_cons pe_str (pa_cons pe_str (pa_cons pe_str (pa_cons pe_str (pa_cons pe_str (pa_cons pe_str pa_nil))))))) (pe_cF (ok__law_draw (K := K) T) hr T.m__law_draw passL (pa_cons (pv 0) (pa_cons pe_int pa_nil))) (fun _ _ => rfl)) pa_nil))))
        pss_nil)
      (pss_cons (ps_if (pt_cmpR op_eq (pv 2) pe_int (nomark _))
        (pss_cons (ps_set (i := 5) sc__law_condition.nd rfl (Or.inl rfl) (pe_op op_add pe_int (pe_cF (ok__law_draw (K := K) T) hr T.m__law_draw passL (pa_cons (pv 0) (pa_cons pe_int pa_nil)))))
        (pss_one (ps_ret (pe_mkF T.k_Length (ok_Length_init (K := K) T) hr T.m_Length passL (pa_cons (pv 5) (pa_cons (pe_op op_add (pv 5) (pe_cF (ok__law_draw (K := K) T) hr T.m__law_draw passL (pa_cons (pv 0) (pa_cons pe_int pa_nil)))) pa_nil))))))
        pss_nil)
      (pss_cons (ps_if (pt_cmpR op_eq (pv 2) pe_int (nomark _))
        (pss_cons (ps_set (i := 5) sc__law_condition.nd rfl (Or.inl rfl) (pe_op op_sub (pe_cF (ok__law_draw (K := K) T) hr T.m__law_draw passL (pa_cons (pv 0) (pa_cons pe_int pa_nil))) pe_int))
        (pss_one (ps_ret (pe_mkF T.k_Value (ok_Value_init (K := K) T) hr T.m_Value passL (pa_cons (pe_ix ix_list (pe_lst (pa_cons pe_non (pa_cons (pv 5) pa_nil))) (pe_cF (ok__law_draw (K := K) T) hr T.m__law_draw passL (pa_cons (pv 0) (pa_cons pe_int pa_nil))) (fun _ _ => rfl)) (pa_cons (pe_ix ix_list (pe_lst (pa_cons pe_non (pa_cons (pe_op op_add (pv 5) (pe_cF (ok__law_draw (K := K) T) hr T.m__law_draw passL (pa_cons (pv 0) (pa_cons pe_int pa_nil)))) pa_nil))) (pe_cF (ok__law_draw (K := K) T) hr T.m__law_draw passL (pa_cons (pv 0) (pa_cons pe_int pa_nil))) (fun _ _ => rfl)) pa_nil))))))
        pss_nil)
      (pss_cons (ps_set (i := 3) sc__law_condition.nd rfl (Or.inl rfl) (pe_cF IH hrn T.m__law_condition passL (pa_cons (pv 0) (pa_cons (pe_op op_sub (pv 1) pe_int) pa_nil)) (Nat.le_refl _)))
      (pss_cons (ps_if (pt_cmpR op_eq (pv 2) pe_int (nomark _))
        (pss_one (ps_ret (pe_un (un_invD (cs := csK K) (un_inv (K := K) T (by decide)) hr passL) (pv 3))))
        pss_nil)
      (pss_cons (ps_set (i := 4) sc__law_condition.nd rfl (Or.inl rfl) (pe_cF IH hrn T.m__law_condition passL (pa_cons (pv 0) (pa_cons (pe_op op_sub (pv 1) pe_int) pa_nil)) (Nat.le_refl _)))
      (pss_one (ps_ret (pe_ifExp (pt_cmpR op_lt (pv 2) pe_int (nomark _)) (pe_op (op_binD (cs := csK K) (bin_and (K := K) T (by decide)) hr passL) (pv 3) (pv 4)) (pe_op (op_binD (cs := csK K) (bin_or (K := K) T (by decide)) hr passL) (pv 3) (pv 4))))))))))))), ?_⟩
    refine seq_gen (fun σ' H' => ∃ way : Int, σ' = [some (.ref a), some (.int n), some (.int way), none, none, none] ∧ PoolAt H' a ∧ Ex a H H' ∧ 0 ≤ way ∧ way < 7 ∧ (n = 0 → way < 3)) (fun N hN => ?_) ?_
    · walk_at "nm"
      by_cases z : 0 < (n : Int)
      · rw [if_pos z]
        exact ⟨a, 7, rfl, hp, by decide, by decide, fun v H' v0 v7 p e => hN _ _ ⟨v, rfl, p, e, v0, v7, fun z' => by omega⟩⟩
      · rw [if_neg z]
        exact ⟨a, 3, rfl, hp, by decide, by decide, fun v H' v0 v3 p e => hN _ _ ⟨v, rfl, p, e, v0, by omega, fun _ => v3⟩⟩
    rintro σ' H1 ⟨way, rfl, hp1, x1, w0, w7, wn⟩
    walk_at "nm"
    refine ⟨rfl, if_eqI (fun _ => ?_) fun w0' => ⟨rfl, if_eqI (fun _ => ?_) fun w1' => ⟨rfl, if_eqI (fun _ => ?_) fun w2' => ?_⟩⟩⟩
    · dsimp only [tMake]
      walk_at "nm"
      refine ⟨by rw [sizeLine_eq]; first | decide | simp, fun l nl => ?_⟩
      generalize hg : upd _ l _ = H2
      have s2 := sameOf nl hg
      have e2 := atOf hg
      clear hg
      refine ⟨a, 6, rfl, hp1.same s2, by decide, by decide, fun v H3 v0 v6 p3 x3 => ?_⟩
      obtain ⟨t, ht, tl, ta⟩ := pick6 v0 v6
      have e3 := x3 l _ (hp1.ne nl) e2
      refine ixL (SqL.of e3) ht ?_
      intro x dx nx ndx nex
      generalize hg : upd (upd _ dx _) x _ = H4
      have s4 := madeOf nx ndx nex hg
      have e4 := atOf hg
      clear hg
      have y3 : Ex a H H3 := fun b o n h => x3 b o n (s2 b o (x1 b o n h))
      exact ⟨x, dx, t, rfl, e4, tl, ta, fun H5 c5 x5 => ⟨rfl, q x (.beg t) H5 (pool_new p3 nx s4 x5) (ex_new y3 nx s4 x5) c5 (Nat.zero_le _) ⟨tl, ta⟩ Nat.one_le_two_pow⟩⟩
    · refine ⟨a, 4, rfl, hp1, by decide, by decide, fun v H2 v0 v4 p2 x2 => ⟨v, rfl, ?_⟩⟩
      dsimp only [tMake]
      walk_at "nm"
      refine ⟨a, 3, rfl, p2, by decide, by decide, fun u H3 u0 u3 p3 x3 => ?_⟩
      walk_at "st"
      intro x dx nx ndx nex
      generalize hg : upd (upd _ dx _) x _ = H4
      have s4 := madeOf nx ndx nex hg
      have e4 := atOf hg
      clear hg
      have y3 : Ex a H H3 := fun b o n h => x3 b o n (x2 b o n (x1 b o n h))
      exact ⟨x, dx, 1 + v, 1 + v + u, rfl, e4, by omega, by omega, by omega, fun H5 c5 x5 => ⟨rfl, q x (.len (1 + v) (1 + v + u)) H5 (pool_new p3 nx s4 x5) (ex_new y3 nx s4 x5) c5 (Nat.zero_le _) ⟨by omega, by omega, by omega⟩ Nat.one_le_two_pow⟩⟩
    · refine ⟨a, 9, rfl, hp1, by decide, by decide, fun i H2 i0 i9 p2 x2 => ⟨i, rfl, ?_⟩⟩
      dsimp only [tMake]
      walk_at "nm"
      refine ⟨by rw [sizeLine_eq]; first | decide | simp, fun l nl => ?_⟩
      generalize hg : upd _ l _ = H3
      have s3 := sameOf nl hg
      have e3 := atOf hg
      clear hg
      refine ⟨a, 2, rfl, p2.same s3, by decide, by decide, fun v H4 v0 v2 p4 x4 => ?_⟩
      have e4 := x4 l _ (p2.ne nl) e3
      obtain ⟨o1, h1, g1⟩ := pickO (i := i - 4) v0 v2
      refine ixL (SqL.of e4) h1 ?_
      refine ⟨a, 4, rfl, p4, by decide, by decide, fun u H5 u0 u4 p5 x5 => ⟨u, rfl, ?_⟩⟩
      refine ⟨by rw [sizeLine_eq]; first | decide | simp, fun m nm => ?_⟩
      generalize hg : upd _ m _ = H6
      have s6 := sameOf nm hg
      have e6 := atOf hg
      clear hg
      refine ⟨a, 2, rfl, p5.same s6, by decide, by decide, fun v' H7 v0' v2' p7 x7 => ?_⟩
      have e7 := x7 m _ (p5.ne nm) e6
      obtain ⟨o2, h2, g2⟩ := pickO (i := i - 4 + u) v0' v2'
      refine ixL (SqL.of e7) h2 ?_
      intro x dx nx ndx nex
      generalize hg : upd (upd _ dx _) x _ = H8
      have s8 := madeOf nx ndx nex hg
      have e8 := atOf hg
      clear hg
      have y7 : Ex a H H7 := fun b o n h => x7 b o n (s6 b o (x5 b o n (x4 b o n (s3 b o (x2 b o n (x1 b o n h))))))
      have hab : ∀ i' j', o1 = some i' → o2 = some j' → i' ≤ j' := fun i' j' z1 z2 => by
        rcases g1 with g1 | g1
        · rw [g1] at z1; cases z1
        rcases g2 with g2 | g2
        · rw [g2] at z2; cases z2
        rw [g1] at z1; rw [g2] at z2
        cases z1; cases z2
        omega
      exact ⟨x, dx, o1, o2, rfl, e8, hab, fun H9 c9 x9 => ⟨rfl, q x (.val o1 o2) H9 (pool_new p7 nx s8 x9) (ex_new y7 nx s8 x9) c9 (Nat.zero_le _) ⟨smO_of g1 (by omega) (by omega), smO_of g2 (by omega) (by omega), hab⟩ Nat.one_le_two_pow⟩⟩
    · obtain ⟨m, rfl⟩ : ∃ m, n = m + 1 := ⟨n - 1, by
        by_cases z : n = 0
        · have := wn z
          omega
        · omega⟩
      have en : ((m + 1 : Nat) : Int) - 1 = ((m : Nat) : Int) := by omega
      have pw : 2 ^ (m + 1) = 2 ^ m + 2 ^ m := by rw [Nat.pow_succ]; omega
      have pm : 2 ^ m ≤ 8 := Nat.pow_le_pow_right (n := 2) (j := 3) (by decide) (by omega)
      rw [en]
      refine ⟨a, m, rfl, by omega, by omega, hp1, fun x c H2 p2 x2 hc hd hf hs => ?_⟩
      have y2 : Ex a H H2 := fun b o n h => x2 b o n (x1 b o n h)
      refine ⟨rfl, if_eqI (fun _ => ?_) fun w3 => ?_⟩
      · refine inv_c hc ⟨x, c, rfl, hc, fun y H3 s3 hy => ?_⟩
        exact q y (.opp c) H3 (p2.same s3) (fun b o n h => s3 b o (y2 b o n h)) ⟨x, hy, hc.same s3⟩ (by show c.deep + 1 ≤ m + 1; omega) hf (by show c.simple.length ≤ _; omega)
      · refine ⟨a, m, rfl, by omega, by omega, p2, fun x' c' H3 p3 x3 hc' hd' hf' hs' => ?_⟩
        have hc3 := hc.pool p2 x3
        have y3 : Ex a H H3 := fun b o n h => x3 b o n (y2 b o n h)
        by_cases w6 : way < 6
        · dsimp only
          rw [if_pos w6]
          refine bin_c hc3 hc' ⟨x, x', c, c', rfl, hc3, hc', by omega, fun y H4 s4 hy => ?_⟩
          exact q y (.both c c') H4 (p3.same s4) (fun b o n h => s4 b o (y3 b o n h)) ⟨x, x', hy, hc3.same s4, hc'.same s4⟩ (by show max c.deep c'.deep + 1 ≤ m + 1; omega) ⟨hf, hf'⟩ (by show (c.simple ++ c'.simple).length ≤ _; rw [List.length_append]; omega)
        · dsimp only
          rw [if_neg w6]
          refine bin_c hc3 hc' ⟨x, x', c, c', rfl, hc3, hc', by omega, fun y H4 s4 hy => ?_⟩
          exact q y (.either c c') H4 (p3.same s4) (fun b o n h => s4 b o (y3 b o n h)) ⟨x, x', hy, hc3.same s4, hc'.same s4⟩ (by show max c.deep c'.deep + 1 ≤ m + 1; omega) ⟨hf, hf'⟩ (by show (c.simple ++ c'.simple).length ≤ _; rw [List.length_append]; omega)

theorem cond_all {P : Program} {w : World} {K : Frag} {mg : Str → Option Value} {base : Heap} (T : TxtP P K mg) : ∀ d, FnB P w K mg base (d + 20) (glA "_law_condition" K) (SpC K d)
  | 0 => FnB.none (kpS T.d__law_condition) fun vs H Q E ⟨_, _, _, h, _⟩ => absurd h (Nat.not_lt_zero _)
  | d + 1 => FnB.mono (ok__law_condition T (cond_all T d)) (by omega)

theorem parts_c {K : Frag} {mg : Str → Option Value} (T : Txt K mg) {H : Hp} {σ : L2.St} {Q : VK} {x : Addr} {i : Nat} {c : Cnd} (hσ : σ[i]? = some (some (.ref x))) (hx : CondAt K H x c) (q : ∀ p sh, H p = some (.tup sh) → Shp K H sh c → Q (.ref p) H) : ∃ j : Cnd, tProp (ga K j.cls) (sp_Condition_parts K) [] E0 (tVar i) σ H Q := by
  obtain ⟨dx, p, l, us, sh, e1, e2, e3, _⟩ := hx.shp
  have k := clsOk T c
  exact ⟨c, _, hσ, x, dx, _, rfl, e1, x, _, dx, _, _, rfl, e1, k.c, k.n1, q p sh e2 e3⟩
theorem slice_starts (z t : Str) : decide (V.str (PySem.Txt.slice z none (some (t.length : Int))) = V.str t) = PySem.Txt.startswith z t := by
  rw [← C8.cutS_slice]
  have e : (cutS z none (some (t.length : Int))).cps.toList = z.cps.toList.take (min t.length z.length) := by
    unfold cutS
    rw [HT.sIx_none, HT.sIx_nat, List.drop_zero, Nat.sub_zero]
  have lz : z.cps.toList.length = z.length := by simp [Str.length]
  have lt : t.cps.toList.length = t.length := by simp [Str.length]
  have ex : (z.cps.extract 0 (0 + t.length)).toList = z.cps.toList.take t.length := by simp
  rw [Bool.eq_iff_iff, decide_eq_true_iff]
  unfold PySem.Txt.startswith
  rw [Bool.and_eq_true, decide_eq_true_iff]
  constructor
  · intro h
    have h : cutS z none (some (t.length : Int)) = t := by injection h
    have h2 : z.cps.toList.take (min t.length z.length) = t.cps.toList := by rw [← e, h]
    have h3 := congrArg List.length h2
    rw [List.length_take, lz, lt] at h3
    refine ⟨by omega, ?_⟩
    show (z.cps.extract 0 (0 + t.length) == t.cps) = true
    rw [beq_iff_eq]
    refine Array.toList_inj.mp ?_
    rw [ex, ← h2]
    congr 1
    omega
  · rintro ⟨h1, h2⟩
    have h2 : (z.cps.extract 0 (0 + t.length) == t.cps) = true := h2
    rw [beq_iff_eq] at h2
    have h3 : z.cps.toList.take t.length = t.cps.toList := by rw [← ex, h2]
    congr 1
    refine Str.ext' (Array.toList_inj.mp ?_)
    rw [e, ← h3]
    congr 1
    omega
def SpLH (K : Frag) (d : Nat) : Sp := fun vs H Q _ => ∃ (x : Addr) (c : Cnd) (z : Str) (v : Int), vs = [.ref x, .str z, .int v] ∧ CondAt K H x c ∧ c.deep < d ∧ c.fine ∧ z.length ≤ 1000 ∧ ∀ H', Same H H' → Q (.bl (c.holds z v)) H'
def SpLT (K : Frag) (d : Nat) : Sp := fun vs H Q _ => ∃ (x : Addr) (c : Cnd), vs = [.ref x] ∧ CondAt K H x c ∧ c.deep < d ∧ c.fine ∧ c.text.length ≤ 100000 ∧ ∀ H', Same H H' → Q (.str c.text) H'
def SpLM (K : Frag) (d : Nat) : Sp := fun vs H Q _ => ∃ (x : Addr) (c : Cnd), vs = [.ref x] ∧ CondAt K H x c ∧ c.deep < d ∧ ∀ H', Same H H' → Q (.int c.simple.length) H'
def SpLA (K : Frag) (d : Nat) : Sp := fun vs H Q _ => ∃ (x : Addr) (c : Cnd), vs = [.ref x] ∧ CondAt K H x c ∧ c.deep < d ∧ c.fine ∧ c.simple.length ≤ 30 ∧ ∀ y H', Same H H' → CondAt K H' y c → Q (.ref y) H'

theorem sc__law_holds : FnScope ["_law_condition_here", "_law_key_here", "_law_value", "_law_parts", "_law_one", "_law_other"] ["_law_condition_here", "_law_key_here", "_law_value"] (defScope s__law_holds) := ⟨rfl, rfl, rfl, by decide +kernel, rfl, by decide +kernel, by decide +kernel⟩
theorem ok__law_holds {P : Program} {w : World} {K : Frag} {mg : Str → Option Value} {base : Heap} (T : TxtP P K mg) {d : Nat} (IH : FnB P w K mg base (d + 20) (glA "_law_holds" K) (SpLH K d)) : FnB P w K mg base (d + 20 + 1) (glA "_law_holds" K) (SpLH K (d + 1)) := by
  refine okD (N := ["_law_condition_here", "_law_key_here", "_law_value", "_law_parts", "_law_one", "_law_other"]) (ps := ["_law_condition_here", "_law_key_here", "_law_value"]) (k := d + 20) (d := g__law_holds) T.d__law_holds rfl sc__law_holds (fun vs H Q E h => ?_) (fun _ _ _ _ _ _ us hl => match us, hl with | [_, _, _], _ => rfl) (fun A outer s H vs Q E hr h => ?_)
  · obtain ⟨x, c, z, v, rfl, hx, hd, hf, hz, q⟩ := h
    rfl
  · have hrn := hr
    replace hr : Rm 20 _ := hr.mono (by omega)
    have hu := hr.hu
    obtain ⟨x, c, z, v, rfl, hx, hd, hf, hz, q⟩ := h
    refine ⟨_, PSs.nox ((pss_cons (ps_set (i := 3) sc__law_holds.nd rfl (Or.inl rfl) (pe_exI fun c => pe_prF (pv 0) (clsOk T.toTxt c).c (pr_parts T.toTxt c) (ok_Condition_parts (K := K) T) hr passL))
      (pss_cons (ps_if (pt_cmpR op_eq (pe_ix ix_tup (pv 3) pe_int (fun _ _ => rfl)) pe_str (nomark _))
        (pss_one (ps_ret (pe_cmpR op_eq (pe_slice C8.sl_txt (pv 1) po_none (po_some (pe_callB call_len_str (by rfl) T.b_len (by decide +kernel) (pa_cons (pe_ix ix_tup (pv 3) pe_int (fun _ _ => rfl)) pa_nil)))) (pe_ix ix_tup (pv 3) pe_int (fun _ _ => rfl)) (nomark _))))
        pss_nil)
      (pss_cons (ps_if (pt_cmpR op_eq (pe_ix ix_tup (pv 3) pe_int (fun _ _ => rfl)) pe_str (nomark _))
        (pss_one (ps_ret (pe_chain op_le op_le (pe_ix ix_tup (pv 3) pe_int (fun _ _ => rfl)) (pe_callB call_len_str (by rfl) T.b_len (by decide +kernel) (pa_cons (pv 1) pa_nil)) (pe_ix ix_tup (pv 3) pe_int (fun _ _ => rfl)))))
        pss_nil)
      (pss_cons (ps_if (pt_cmpR op_eq (pe_ix ix_tup (pv 3) pe_int (fun _ _ => rfl)) pe_str (nomark _))
        (pss_one (ps_ret (pe_and (pe_or (pe_cmpR op_isN (pe_ix ix_tup (pv 3) pe_int (fun _ _ => rfl)) pe_non (nomark _)) (pe_one (pe_cmpR op_le (pe_ix ix_tup (pv 3) pe_int (fun _ _ => rfl)) (pv 2) (nomark _)))) (pe_one (pe_or (pe_cmpR op_isN (pe_ix ix_tup (pv 3) pe_int (fun _ _ => rfl)) pe_non (nomark _)) (pe_one (pe_cmpR op_le (pv 2) (pe_ix ix_tup (pv 3) pe_int (fun _ _ => rfl)) (nomark _))))))))
        pss_nil)
      (pss_cons (ps_if (pt_cmpR op_eq (pe_ix ix_tup (pv 3) pe_int (fun _ _ => rfl)) pe_str (nomark _))
        (pss_one (ps_ret (pe_not (pe_cF IH hrn T.m__law_holds passL (pa_cons (pe_ix ix_tup (pv 3) pe_int (fun _ _ => rfl)) (pa_cons (pv 1) (pa_cons (pv 2) pa_nil))) (Nat.le_refl _)))))
        pss_nil)
      (pss_cons (ps_par (i := 4) (j := 5) (by rfl) sc__law_holds.nd rfl rfl (by decide) rfl rfl (pa_cons (pe_cF IH hrn T.m__law_holds passL (pa_cons (pe_ix ix_tup (pv 3) pe_int (fun _ _ => rfl)) (pa_cons (pv 1) (pa_cons (pv 2) pa_nil))) (Nat.le_refl _)) (pa_cons (pe_cF IH hrn T.m__law_holds passL (pa_cons (pe_ix ix_tup (pv 3) pe_int (fun _ _ => rfl)) (pa_cons (pv 1) (pa_cons (pv 2) pa_nil))) (Nat.le_refl _)) pa_nil)) (by rfl))
      (pss_one (ps_ret (pe_ifExp (pt_cmpR op_eq (pe_ix ix_tup (pv 3) pe_int (fun _ _ => rfl)) pe_str (nomark _)) (pe_and (pv 4) (pe_one (pv 5))) (pe_or (pv 4) (pe_one (pv 5))))))))))))), ?_⟩
    walk_at "nm"
    refine parts_c T.toTxt rfl hx fun p sh e2 e3 => ?_
    cases c with
    | beg t =>
      cases e3
      refine ixT (SqT.of e2) rfl ⟨rfl, if_eqS (fun _ => ?_) (fun h => absurd rfl h)⟩
      refine ixT (SqT.of e2) rfl ⟨t, rfl, (by rw [sizeLine_eq]; have := hf.1; omega), ?_⟩
      refine ⟨z, rfl, (by rw [sizeLine_eq]; omega), ?_⟩
      refine ixT (SqT.of e2) rfl ⟨rfl, ?_⟩
      rw [slice_starts]
      exact q H (Same.refl _)
    | len a b =>
      cases e3
      refine ixT (SqT.of e2) rfl ⟨rfl, if_eqS (fun h => absurd h (by decide +kernel)) (fun _ => ?_)⟩
      refine ixT (SqT.of e2) rfl ⟨rfl, if_eqS (fun _ => ?_) (fun h => absurd rfl h)⟩
      refine ixT (SqT.of e2) rfl ⟨by rw [sizeLine_eq]; omega, a, rfl, ?_⟩
      have q := q H (Same.refl _)
      unfold Cnd.holds at q
      by_cases h : a ≤ (z.length : Int)
      · rw [if_pos h]
        rw [decide_eq_true h] at q
        exact ixT (SqT.of e2) rfl ⟨b, rfl, q⟩
      · rw [if_neg h]
        rw [decide_eq_false h] at q
        exact q
    | val a b =>
      cases e3
      refine ixT (SqT.of e2) rfl ⟨rfl, if_eqS (fun h => absurd h (by decide +kernel)) (fun _ => ?_)⟩
      refine ixT (SqT.of e2) rfl ⟨rfl, if_eqS (fun h => absurd h (by decide +kernel)) (fun _ => ?_)⟩
      refine ixT (SqT.of e2) rfl ⟨rfl, if_eqS (fun _ => ?_) (fun h => absurd rfl h)⟩
      have q := q H (Same.refl _)
      have e : Cnd.holds (.val a b) z v = (leO a v && geO b v) := rfl
      rw [e] at q
      have key : leO a v = true → rIxT K (.ref p) (.int 2) H fun x_8 H1 => if x_8 = V.non then Q (V.bl true) H1 else rIxT K (.ref p) (.int 2) H1 fun y H2 => ∃ x, y = V.int x ∧ Q (V.bl (decide (v ≤ x))) H2 := by
        intro h1
        rw [h1, Bool.true_and] at q
        refine ixT (SqT.of e2) (v := oV b) rfl ?_
        cases b with
        | none => rw [if_pos (by simp [oV])]; exact q
        | some j =>
          rw [if_neg (by simp [oV])]
          exact ixT (SqT.of e2) rfl ⟨j, rfl, q⟩
      refine ixT (SqT.of e2) (v := oV a) rfl ?_
      cases a with
      | none =>
        try dsimp only
        rw [if_pos (by simp [oV])]
        exact key rfl
      | some i =>
        try dsimp only
        rw [if_neg (by simp [oV])]
        refine ixT (SqT.of e2) (v := .int i) rfl ⟨i, rfl, ?_⟩
        by_cases h : i ≤ v
        · rw [if_pos h]
          exact key (decide_eq_true h)
        · rw [if_neg h]
          have h1 : leO (some i) v = false := decide_eq_false h
          rw [h1] at q
          exact q
    | both c1 c2 =>
      obtain ⟨b1, b2, rfl, hc1, hc2⟩ := e3
      have hd : max c1.deep c2.deep + 1 < d + 1 := hd
      refine ixT (SqT.of e2) rfl ⟨rfl, if_eqS (fun h => absurd h (by decide +kernel)) (fun _ => ?_)⟩
      refine ixT (SqT.of e2) rfl ⟨rfl, if_eqS (fun h => absurd h (by decide +kernel)) (fun _ => ?_)⟩
      refine ixT (SqT.of e2) rfl ⟨rfl, if_eqS (fun h => absurd h (by decide +kernel)) (fun _ => ?_)⟩
      refine ixT (SqT.of e2) rfl ⟨rfl, if_eqS (fun h => absurd h (by decide +kernel)) (fun _ => ?_)⟩
      refine ixT (SqT.of e2) rfl ⟨b1, c1, z, v, rfl, hc1, by omega, hf.1, hz, fun H1 s1 => ?_⟩
      refine ixT (SqT.of (s1 _ _ e2)) rfl ⟨b2, c2, z, v, rfl, hc2.same s1, by omega, hf.2, hz, fun H2 s2 => ?_⟩
      refine ⟨_, _, ⟨rfl, rfl⟩, ixT (SqT.of (s2 _ _ (s1 _ _ e2))) rfl ⟨rfl, if_eqS (fun _ => ⟨_, rfl, ?_⟩) (fun h => absurd rfl h)⟩⟩
      have q := q H2 (s1.trans s2)
      have e : Cnd.holds (.both c1 c2) z v = (c1.holds z v && c2.holds z v) := rfl
      rw [e] at q
      cases h1 : c1.holds z v with
      | true => rw [h1] at q; rw [if_pos rfl]; exact q
      | false => rw [h1] at q; rw [if_neg (by simp)]; exact q
    | either c1 c2 =>
      obtain ⟨b1, b2, rfl, hc1, hc2⟩ := e3
      have hd : max c1.deep c2.deep + 1 < d + 1 := hd
      refine ixT (SqT.of e2) rfl ⟨rfl, if_eqS (fun h => absurd h (by decide +kernel)) (fun _ => ?_)⟩
      refine ixT (SqT.of e2) rfl ⟨rfl, if_eqS (fun h => absurd h (by decide +kernel)) (fun _ => ?_)⟩
      refine ixT (SqT.of e2) rfl ⟨rfl, if_eqS (fun h => absurd h (by decide +kernel)) (fun _ => ?_)⟩
      refine ixT (SqT.of e2) rfl ⟨rfl, if_eqS (fun h => absurd h (by decide +kernel)) (fun _ => ?_)⟩
      refine ixT (SqT.of e2) rfl ⟨b1, c1, z, v, rfl, hc1, by omega, hf.1, hz, fun H1 s1 => ?_⟩
      refine ixT (SqT.of (s1 _ _ e2)) rfl ⟨b2, c2, z, v, rfl, hc2.same s1, by omega, hf.2, hz, fun H2 s2 => ?_⟩
      refine ⟨_, _, ⟨rfl, rfl⟩, ixT (SqT.of (s2 _ _ (s1 _ _ e2))) rfl ⟨rfl, if_eqS (fun h => absurd h (by decide +kernel)) (fun _ => ⟨_, rfl, ?_⟩)⟩⟩
      have q := q H2 (s1.trans s2)
      have e : Cnd.holds (.either c1 c2) z v = (c1.holds z v || c2.holds z v) := rfl
      rw [e] at q
      cases h1 : c1.holds z v with
      | true => rw [h1] at q; rw [if_pos rfl]; exact q
      | false => rw [h1] at q; rw [if_neg (by simp)]; exact q
    | opp c1 =>
      obtain ⟨b1, rfl, hc1⟩ := e3
      have hd : c1.deep + 1 < d + 1 := hd
      refine ixT (SqT.of e2) rfl ⟨rfl, if_eqS (fun h => absurd h (by decide +kernel)) (fun _ => ?_)⟩
      refine ixT (SqT.of e2) rfl ⟨rfl, if_eqS (fun h => absurd h (by decide +kernel)) (fun _ => ?_)⟩
      refine ixT (SqT.of e2) rfl ⟨rfl, if_eqS (fun h => absurd h (by decide +kernel)) (fun _ => ?_)⟩
      refine ixT (SqT.of e2) rfl ⟨rfl, if_eqS (fun _ => ?_) (fun h => absurd rfl h)⟩
      exact ixT (SqT.of e2) rfl ⟨b1, c1, z, v, rfl, hc1, by omega, hf, hz, fun H1 s1 => ⟨_, rfl, q H1 s1⟩⟩

section
variable {K : Frag} {H : Hp} {σ : L2.St} {Q : VK}
theorem same_own {H H' : Hp} {D : Addr} {o : HO} (n : H D = none) (s : Same H H') : Same H (upd H' D o) := fun b u e => by
  rw [upd_ne (ne_of_none e n)]
  exact s b u e
theorem same_new {H H1 H' : Hp} {x : Addr} (nx : H x = none) (s : Same H H1) (e : Ex x H1 H') : Same H H' := fun b o h => e b o (fun z => by rw [z, nx] at h; cases h) (s b o h)
theorem rp_str {t : Str} (h : (reprText t).length ≤ sizeLine) : Rp K H (.str t) (reprText t) := Rp.data (.str t) (.str t) rfl rfl (by show 0 ≤ 64; decide) h
theorem rp_int {i : Int} (h : i.natAbs.log2 < 1920) : Rp K H (.int i) (toString i : Str) := Rp.data (.int i) (.int i) (decide_eq_true h) rfl (by show 0 ≤ 64; decide) (int_text_fits h)
theorem rp_non : Rp K H .non ("None" : Str) := Rp.data .none .non rfl rfl (by show 0 ≤ 64; decide) (by decide)
theorem rp_bl (b : Bool) : Rp K H (.bl b) (if b then "True" else "False" : Str) := Rp.data (.bool b) (.bl b) rfl rfl (by show 0 ≤ 64; decide) (by cases b <;> decide)
theorem rp_oV {o : Option Int} (h : smO o) : Rp K H (oV o) (oT o) := by
  cases o with
  | none => exact rp_non
  | some i => exact rp_int (log_small (by have := h i rfl; omega) (by have := h i rfl; omega))
theorem disp2 {s1 t1 s2 t2 : Str} (hm : mergeK [] [(.inr s1, V.str t1), (.inr s2, V.str t2)] = [(.inr s1, V.str t1), (.inr s2, V.str t2)]) (q : ∀ p H', Same H H' → H' p = some (.dK [(.inr s1, V.str t1), (.inr s2, V.str t2)]) → Q (.ref p) H') : tDisp [(tC (.str s1), tC (.str t1)), (tC (.str s2), tC (.str t2))] σ H Q := by
  intro p hp
  refine ⟨upd_same, [(.inr s1, V.str t1), (.inr s2, V.str t2)], rfl, by show 2 ≤ 15; decide, ?_⟩
  rw [hm]
  exact q p _ (fun b o e => by rw [upd_ne (ne_of_none e hp), upd_ne (ne_of_none e hp)]; exact e) upd_same
theorem dget2 {s1 t1 s2 t2 k v : Str} {p : Addr} (hp : H p = some (.dK [(.inr s1, V.str t1), (.inr s2, V.str t2)])) (e : valV [((.inr s1 : Key), V.str t1), (.inr s2, V.str t2)] (.inr k) = some (.str v)) : DGet H p (.str k) (some (.str v)) := by
  have z := DGet.k (k := .inr k) hp
  rw [e] at z
  exact z
theorem lc_mapT {tl te : TE} {tt : TT} {i : Nat} {l : Addr} {xs rs : List V} (hL : H l = some (.tup xs)) (hr : xs.length = rs.length) (few : xs.length ≤ 10000)
    (hl : ∀ Q' : VK, Q' (.ref l) H → tl σ H Q') (hw : ∀ x, wipe ((wipe σ [i]).set i (some x)) [i] = wipe σ [i])
    (ht : ∀ σ2 G (Q' : Bool → Hp → Prop), Q' true G → tt σ2 G Q')
    (he : ∀ (j : Nat) (x r : V) (G : Hp) (Q' : VK), xs[j]? = some x → rs[j]? = some r → Same H G → (∀ G', Same G G' → Q' r G') → te ((wipe σ [i]).set i (some x)) G Q')
    (q : ∀ G D, Same H G → H D = none → G D = some (.lst rs) → Q (.ref D) G) : tLc (iTup K tl) (gName i) tt te [i] σ H Q := by
  refine hl _ ⟨l, rfl, ⟨_, SqT.of hL⟩, fun D hD => ?_⟩
  refine lc_it (walk_tup (xs := xs)) (fun j H2 => H2 D = some (.lst (rs.take j)) ∧ Same H H2) ⟨upd_same, Same.upd (Same.refl _) hD⟩ (fun j H2 _ ⟨_, s⟩ => SqT.of (s _ _ hL)) ?_ ?_
  · rintro j y H2 H3 hj ⟨hb, s2⟩ ⟨rfl, hy⟩
    have hrj : rs[j]? = some rs[j] := List.getElem?_eq_getElem (by omega)
    refine ⟨hw _, ?_⟩
    refine ht _ _ _ ?_
    rw [if_pos rfl]
    refine he j _ _ _ _ hy hrj s2 fun G' s3 => ?_
    refine ⟨_, s3 _ _ hb, ?_, ?_, same_own hD (s2.trans s3)⟩
    · rw [sizeLine_eq, List.length_take]
      omega
    · rw [upd_same, List.take_add_one, hrj]
      rfl
  · rintro H2 ⟨hb, s2⟩
    rw [hr, List.take_length] at hb
    exact q H2 D s2 hD hb
theorem tLcT_via {tl te : TE} {g : TG} {tt : TT} {vs : List Nat} (h : tl σ H fun v H1 => tLc (iTup K fun _ G Q' => Q' v G) g tt te vs σ H1 Q) : tLc (iTup K tl) g tt te vs σ H Q := h
end

theorem sc__law_text : FnScope ["_law_condition_here", "_law_parts", "_law_sign"] ["_law_condition_here"] (defScope s__law_text) := ⟨rfl, rfl, rfl, by decide +kernel, rfl, by decide +kernel, by decide +kernel⟩
theorem ok__law_text {P : Program} {w : World} {K : Frag} {mg : Str → Option Value} {base : Heap} (T : TxtP P K mg) {d : Nat} (IH : FnB P w K mg base (d + 20) (glA "_law_text" K) (SpLT K d)) : FnB P w K mg base (d + 20 + 1) (glA "_law_text" K) (SpLT K (d + 1)) := by
  refine okD (N := ["_law_condition_here", "_law_parts", "_law_sign"]) (ps := ["_law_condition_here"]) (k := d + 20) (d := g__law_text) T.d__law_text rfl sc__law_text (fun vs H Q E h => ?_) (fun _ _ _ _ _ _ us hl => match us, hl with | [_], _ => rfl) (fun A outer s H vs Q E hr h => ?_)
  · obtain ⟨x, c, rfl, hx, hd, hf, hz, q⟩ := h
    rfl
  · have hrn := hr
    replace hr : Rm 20 _ := hr.mono (by omega)
    have hu := hr.hu
    obtain ⟨x, c, rfl, hx, hd, hf, hz, q⟩ := h
    refine ⟨_, PSs.nox ((pss_cons (ps_set (i := 1) sc__law_text.nd rfl (Or.inl rfl) (pe_exI fun c => pe_prF (pv 0) (clsOk T.toTxt c).c (pr_parts T.toTxt c) (ok_Condition_parts (K := K) T) hr passL))
      (pss_cons (ps_if (pt_cmpR op_eq (pe_ix ix_tup (pv 1) pe_int (fun _ _ => rfl)) pe_str (nomark _))
        (pss_one (ps_ret (pe_op op_add_str (pe_op op_add_str pe_str (pe_callB (call_reprV hr.g (hu99 hr)) (by rfl) T.b_repr (by decide +kernel) (pa_cons (pe_ix ix_tup (pv 1) pe_int (fun _ _ => rfl)) pa_nil))) pe_str)))
        pss_nil)
      (pss_cons (ps_if (pt_cmpR op_in_seq (pe_ix ix_tup (pv 1) pe_int (fun _ _ => rfl)) (pe_tup (pa_cons pe_str (pa_cons pe_str pa_nil))) (by rfl))
        (pss_one (ps_ret (pe_op op_add_str (pe_op op_add_str (pe_op op_add_str (pe_op op_add_str (pe_dget hr.hu (pe_disp (pps_cons pe_str pe_str (pps_cons pe_str pe_str pps_nil)) rfl rfl (by simp) (by decide)) (pe_ix ix_tup (pv 1) pe_int (fun _ _ => rfl)) (fun _ _ => rfl)) (pe_callB (call_reprV hr.g (hu99 hr)) (by rfl) T.b_repr (by decide +kernel) (pa_cons (pe_ix ix_tup (pv 1) pe_int (fun _ _ => rfl)) pa_nil))) pe_str) (pe_callB (call_reprV hr.g (hu99 hr)) (by rfl) T.b_repr (by decide +kernel) (pa_cons (pe_ix ix_tup (pv 1) pe_int (fun _ _ => rfl)) pa_nil))) pe_str)))
        pss_nil)
      (pss_cons (ps_if (pt_cmpR op_eq (pe_ix ix_tup (pv 1) pe_int (fun _ _ => rfl)) pe_str (nomark _))
        (pss_one (ps_ret (pe_op op_add_str pe_str (pe_cF IH hrn T.m__law_text passL (pa_cons (pe_ix ix_tup (pv 1) pe_int (fun _ _ => rfl)) pa_nil) (Nat.le_refl _)))))
        pss_nil)
      (pss_cons (ps_set (i := 2) sc__law_text.nd rfl (Or.inl rfl) (pe_dget hr.hu (pe_disp (pps_cons pe_str pe_str (pps_cons pe_str pe_str pps_nil)) rfl rfl (by simp) (by decide)) (pe_ix ix_tup (pv 1) pe_int (fun _ _ => rfl)) (fun _ _ => rfl)))
      (pss_one (ps_ret (pe_op op_add_str (pe_op op_add_str (pe_op op_add_str (pe_op op_add_str pe_str (pe_cF IH hrn T.m__law_text passL (pa_cons (pe_ix ix_tup (pv 1) pe_int (fun _ _ => rfl)) pa_nil) (Nat.le_refl _))) (pv 2)) (pe_cF IH hrn T.m__law_text passL (pa_cons (pe_ix ix_tup (pv 1) pe_int (fun _ _ => rfl)) pa_nil) (Nat.le_refl _))) pe_str))))))))), ?_⟩
    walk_at "nm"
    refine parts_c T.toTxt rfl hx fun p sh e2 e3 => ?_
    have bg : 100000 ≤ sizeLine := by rw [sizeLine_eq]; omega
    cases c with
    | beg t =>
      cases e3
      have hz2 : (Str.ofString "Begins(").length + (reprText t).length + (Str.ofString ")").length ≤ 100000 := by
        simp only [Cnd.text, Str.length_append] at hz
        exact hz
      refine ixT (SqT.of e2) rfl ⟨rfl, if_eqS (fun _ => ?_) (fun h => absurd rfl h)⟩
      refine ixT (SqT.of e2) rfl ⟨_, _, rfl, rp_str (by omega), _, rfl, (by omega), (by rw [Str.length_append]; omega), q H (Same.refl _)⟩
    | len a b =>
      cases e3
      obtain ⟨f1, f2, f3⟩ := hf
      have hz2 : (Str.ofString "Length(").length + (toString a : Str).length + (Str.ofString ", ").length + (toString b : Str).length + (Str.ofString ")").length ≤ 100000 := by
        simp only [Cnd.text, Str.length_append] at hz
        exact hz
      refine ixT (SqT.of e2) rfl ⟨rfl, if_eqS (fun h => absurd h (by decide +kernel)) (fun _ => ?_)⟩
      refine ixT (SqT.of e2) rfl ?_
      refine ⟨by rw [sizeLine_eq]; first | decide | simp, fun m nm => ?_⟩
      generalize hg : upd _ m _ = H1
      have s1 := sameOf nm hg
      have e1 := atOf hg
      clear hg
      refine ⟨m, _, rfl, .inr (SqT.of e1), rfl, rfl, true, (by decide +kernel), ?_⟩
      rw [if_pos rfl]
      have e2' := s1 _ _ e2
      refine disp2 (by decide +kernel) fun p' H2 s2 hp' => ?_
      walk_at "nm"
      have e3' := s2 _ _ e2'
      have dg := dget2 (k := "length") (v := "Length(") hp' (by decide +kernel)
      refine ixT (SqT.of e3') rfl ⟨_, dg, ?_⟩
      refine ixT (SqT.of e3') rfl ⟨_, _, rfl, (rp_int (log_small (by omega) (by omega))), _, rfl, _, rfl, (by omega), (by rw [Str.length_append]; omega), ?_⟩
      refine ixT (SqT.of e3') rfl ⟨_, _, rfl, (rp_int (log_small (by omega) (by omega))), _, rfl, (by simp only [Str.length_append]; omega), (by simp only [Str.length_append]; omega), q H2 (s1.trans s2)⟩
    | val a b =>
      cases e3
      obtain ⟨f1, f2, f3⟩ := hf
      have hz2 : (Str.ofString "Value(").length + (oT a).length + (Str.ofString ", ").length + (oT b).length + (Str.ofString ")").length ≤ 100000 := by
        simp only [Cnd.text, Str.length_append] at hz
        exact hz
      refine ixT (SqT.of e2) rfl ⟨rfl, if_eqS (fun h => absurd h (by decide +kernel)) (fun _ => ?_)⟩
      refine ixT (SqT.of e2) rfl ?_
      refine ⟨by rw [sizeLine_eq]; first | decide | simp, fun m nm => ?_⟩
      generalize hg : upd _ m _ = H1
      have s1 := sameOf nm hg
      have e1 := atOf hg
      clear hg
      refine ⟨m, _, rfl, .inr (SqT.of e1), rfl, rfl, true, (by decide +kernel), ?_⟩
      rw [if_pos rfl]
      have e2' := s1 _ _ e2
      refine disp2 (by decide +kernel) fun p' H2 s2 hp' => ?_
      walk_at "nm"
      have e3' := s2 _ _ e2'
      have dg := dget2 (k := "value") (v := "Value(") hp' (by decide +kernel)
      refine ixT (SqT.of e3') rfl ⟨_, dg, ?_⟩
      refine ixT (SqT.of e3') rfl ⟨_, _, rfl, (rp_oV f1), _, rfl, _, rfl, (by omega), (by rw [Str.length_append]; omega), ?_⟩
      refine ixT (SqT.of e3') rfl ⟨_, _, rfl, (rp_oV f2), _, rfl, (by simp only [Str.length_append]; omega), (by simp only [Str.length_append]; omega), q H2 (s1.trans s2)⟩
    | both c1 c2 =>
      obtain ⟨b1, b2, rfl, hc1, hc2⟩ := e3
      have hd : max c1.deep c2.deep + 1 < d + 1 := hd
      have hz2 : (Str.ofString "(").length + c1.text.length + (Str.ofString " & ").length + c2.text.length + (Str.ofString ")").length ≤ 100000 := by
        simp only [Cnd.text, Str.length_append] at hz
        exact hz
      refine ixT (SqT.of e2) rfl ⟨rfl, if_eqS (fun h => absurd h (by decide +kernel)) (fun _ => ?_)⟩
      refine ixT (SqT.of e2) rfl ?_
      refine ⟨by rw [sizeLine_eq]; first | decide | simp, fun m nm => ?_⟩
      generalize hg : upd _ m _ = H1
      have s1 := sameOf nm hg
      have e1 := atOf hg
      clear hg
      refine ⟨m, _, rfl, .inr (SqT.of e1), rfl, rfl, false, (by decide +kernel), ?_⟩
      rw [if_neg (by simp)]
      have e2' := s1 _ _ e2
      refine ixT (SqT.of e2') rfl ⟨rfl, if_eqS (fun h => absurd h (by decide +kernel)) (fun _ => ?_)⟩
      refine disp2 (by decide +kernel) fun p' H2 s2 hp' => ?_
      walk_at "nm"
      have e3' := s2 _ _ e2'
      have dg := dget2 (k := "and") (v := " & ") hp' (by decide +kernel)
      refine ixT (SqT.of e3') rfl ⟨_, dg, ?_⟩
      refine ixT (SqT.of e3') rfl ⟨b1, c1, rfl, hc1.same (s1.trans s2), by omega, hf.1, by omega, fun H3 s3 => ⟨_, rfl, (by omega), _, rfl, (by rw [Str.length_append]; omega), ?_⟩⟩
      refine ixT (SqT.of (s3 _ _ e3')) rfl ⟨b2, c2, rfl, hc2.same ((s1.trans s2).trans s3), by omega, hf.2, by omega, fun H4 s4 => ⟨_, rfl, (by simp only [Str.length_append]; omega), (by simp only [Str.length_append]; omega), q H4 (((s1.trans s2).trans s3).trans s4)⟩⟩
    | either c1 c2 =>
      obtain ⟨b1, b2, rfl, hc1, hc2⟩ := e3
      have hd : max c1.deep c2.deep + 1 < d + 1 := hd
      have hz2 : (Str.ofString "(").length + c1.text.length + (Str.ofString " | ").length + c2.text.length + (Str.ofString ")").length ≤ 100000 := by
        simp only [Cnd.text, Str.length_append] at hz
        exact hz
      refine ixT (SqT.of e2) rfl ⟨rfl, if_eqS (fun h => absurd h (by decide +kernel)) (fun _ => ?_)⟩
      refine ixT (SqT.of e2) rfl ?_
      refine ⟨by rw [sizeLine_eq]; first | decide | simp, fun m nm => ?_⟩
      generalize hg : upd _ m _ = H1
      have s1 := sameOf nm hg
      have e1 := atOf hg
      clear hg
      refine ⟨m, _, rfl, .inr (SqT.of e1), rfl, rfl, false, (by decide +kernel), ?_⟩
      rw [if_neg (by simp)]
      have e2' := s1 _ _ e2
      refine ixT (SqT.of e2') rfl ⟨rfl, if_eqS (fun h => absurd h (by decide +kernel)) (fun _ => ?_)⟩
      refine disp2 (by decide +kernel) fun p' H2 s2 hp' => ?_
      walk_at "nm"
      have e3' := s2 _ _ e2'
      have dg := dget2 (k := "or") (v := " | ") hp' (by decide +kernel)
      refine ixT (SqT.of e3') rfl ⟨_, dg, ?_⟩
      refine ixT (SqT.of e3') rfl ⟨b1, c1, rfl, hc1.same (s1.trans s2), by omega, hf.1, by omega, fun H3 s3 => ⟨_, rfl, (by omega), _, rfl, (by rw [Str.length_append]; omega), ?_⟩⟩
      refine ixT (SqT.of (s3 _ _ e3')) rfl ⟨b2, c2, rfl, hc2.same ((s1.trans s2).trans s3), by omega, hf.2, by omega, fun H4 s4 => ⟨_, rfl, (by simp only [Str.length_append]; omega), (by simp only [Str.length_append]; omega), q H4 (((s1.trans s2).trans s3).trans s4)⟩⟩
    | opp c1 =>
      obtain ⟨b1, rfl, hc1⟩ := e3
      have hd : c1.deep + 1 < d + 1 := hd
      have hz2 : (Str.ofString "~").length + c1.text.length ≤ 100000 := by
        simp only [Cnd.text, Str.length_append] at hz
        exact hz
      refine ixT (SqT.of e2) rfl ⟨rfl, if_eqS (fun h => absurd h (by decide +kernel)) (fun _ => ?_)⟩
      refine ixT (SqT.of e2) rfl ?_
      refine ⟨by rw [sizeLine_eq]; first | decide | simp, fun m nm => ?_⟩
      generalize hg : upd _ m _ = H1
      have s1 := sameOf nm hg
      have e1 := atOf hg
      clear hg
      refine ⟨m, _, rfl, .inr (SqT.of e1), rfl, rfl, false, (by decide +kernel), ?_⟩
      rw [if_neg (by simp)]
      have e2' := s1 _ _ e2
      refine ixT (SqT.of e2') rfl ⟨rfl, if_eqS (fun _ => ?_) (fun h => absurd rfl h)⟩
      refine ixT (SqT.of e2') rfl ⟨b1, c1, rfl, hc1.same s1, by omega, hf, by omega, fun H2 s2 => ⟨_, rfl, by omega, q H2 (s1.trans s2)⟩⟩

theorem sc__law_many : FnScope ["_law_condition_here", "_law_parts", "_law_part"] ["_law_condition_here"] (defScope s__law_many) := ⟨rfl, rfl, rfl, by decide +kernel, rfl, by decide +kernel, by decide +kernel⟩
theorem ok__law_many {P : Program} {w : World} {K : Frag} {mg : Str → Option Value} {base : Heap} (T : TxtP P K mg) {d : Nat} (IH : FnB P w K mg base (d + 20) (glA "_law_many" K) (SpLM K d)) : FnB P w K mg base (d + 20 + 1) (glA "_law_many" K) (SpLM K (d + 1)) := by
  refine okD (N := ["_law_condition_here", "_law_parts", "_law_part"]) (ps := ["_law_condition_here"]) (k := d + 20) (d := g__law_many) T.d__law_many rfl sc__law_many (fun vs H Q E h => ?_) (fun _ _ _ _ _ _ us hl => match us, hl with | [_], _ => rfl) (fun A outer s H vs Q E hr h => ?_)
  · obtain ⟨x, c, rfl, hx, hd, q⟩ := h
    rfl
  · have hrn := hr
    replace hr : Rm 20 _ := hr.mono (by omega)
    have hu := hr.hu
    obtain ⟨x, c, rfl, hx, hd, q⟩ := h
    refine ⟨_, PSs.nox ((pss_cons (ps_set (i := 1) sc__law_many.nd rfl (Or.inl rfl) (pe_exI fun c => pe_prF (pv 0) (clsOk T.toTxt c).c (pr_parts T.toTxt c) (ok_Condition_parts (K := K) T) hr passL))
      (pss_cons (ps_if (pt_cmpR op_in_seq (pe_ix ix_tup (pv 1) pe_int (fun _ _ => rfl)) (pe_tup (pa_cons pe_str (pa_cons pe_str (pa_cons pe_str pa_nil)))) (by rfl))
        (pss_one (ps_ret pe_int))
        pss_nil)
      (pss_one (ps_ret (pe_callB (cr_sum rfl) (by rfl) T.b_sum (by decide +kernel) (pa_cons (pe_lc (own := [("_law_part", 2)]) (g := gName 2) rfl sc__law_many.nd (pi_tup (pe_slice sl_tupA (pv 1) (po_some pe_int) po_none)) (blkOk_by (N := ["_law_condition_here", "_law_parts", "_law_part"]) (sc := defScope s__law_many) (by decide +kernel)) (fun _ _ _ _ _ => pg_name (i := 2) sc__law_many.nd rfl (Or.inl rfl)) (fun _ _ _ _ _ => pts_nil) (fun _ _ _ _ _ => (pe_cF IH hrn T.m__law_many passL (pa_cons (pv 2) pa_nil) (Nat.le_refl _)))) pa_nil))))))), ?_⟩
    walk_at "nm"
    refine parts_c T.toTxt rfl hx fun p sh e2 e3 => ?_
    cases c with
    | beg t =>
      cases e3
      refine ixT (SqT.of e2) rfl ?_
      refine ⟨by rw [sizeLine_eq]; first | decide | simp, fun m nm => ?_⟩
      generalize hg : upd _ m _ = H1
      have s1 := sameOf nm hg
      have e1 := atOf hg
      clear hg
      refine ⟨m, _, rfl, .inr (SqT.of e1), rfl, rfl, true, (by decide +kernel), ?_⟩
      rw [if_pos rfl]
      have e2' := s1 _ _ e2
      exact q H1 s1
    | len a b =>
      cases e3
      refine ixT (SqT.of e2) rfl ?_
      refine ⟨by rw [sizeLine_eq]; first | decide | simp, fun m nm => ?_⟩
      generalize hg : upd _ m _ = H1
      have s1 := sameOf nm hg
      have e1 := atOf hg
      clear hg
      refine ⟨m, _, rfl, .inr (SqT.of e1), rfl, rfl, true, (by decide +kernel), ?_⟩
      rw [if_pos rfl]
      have e2' := s1 _ _ e2
      exact q H1 s1
    | val a b =>
      cases e3
      refine ixT (SqT.of e2) rfl ?_
      refine ⟨by rw [sizeLine_eq]; first | decide | simp, fun m nm => ?_⟩
      generalize hg : upd _ m _ = H1
      have s1 := sameOf nm hg
      have e1 := atOf hg
      clear hg
      refine ⟨m, _, rfl, .inr (SqT.of e1), rfl, rfl, true, (by decide +kernel), ?_⟩
      rw [if_pos rfl]
      have e2' := s1 _ _ e2
      exact q H1 s1
    | both c1 c2 =>
      obtain ⟨b1, b2, rfl, hc1, hc2⟩ := e3
      have hd : max c1.deep c2.deep + 1 < d + 1 := hd
      refine ixT (SqT.of e2) rfl ?_
      refine ⟨by rw [sizeLine_eq]; first | decide | simp, fun m nm => ?_⟩
      generalize hg : upd _ m _ = H1
      have s1 := sameOf nm hg
      have e1 := atOf hg
      clear hg
      refine ⟨m, _, rfl, .inr (SqT.of e1), rfl, rfl, false, (by decide +kernel), ?_⟩
      rw [if_neg (by simp)]
      have e2' := s1 _ _ e2
      refine tLcT_via ?_
      walk_at "nm"
      refine ⟨p, _, rfl, SqT.of e2', fun z => absurd z.1 (by show ¬ (1 = 0); decide), fun _ t nt => ?_⟩
      generalize hg : upd H1 t _ = H2
      have ht2 : H2 t = some (.tup [.ref b1, .ref b2]) := atOf hg
      have s2 := sameOf nt hg
      refine lc_mapT (rs := [.int c1.simple.length, .int c2.simple.length]) ht2 rfl (by show 2 ≤ 10000; decide) (fun Q' q' => q') (fun _ => rfl) (fun σ2 G Q' q' => q') (fun j x r G Q' hx hr s3 k => ?_) fun G D s3 _ hD => ?_
      · match j, hx, hr with
        | 0, hx, hr =>
          cases hx; cases hr
          exact ⟨_, rfl, b1, c1, rfl, hc1.same ((s1.trans s2).trans s3), by omega, k⟩
        | 1, hx, hr =>
          cases hx; cases hr
          exact ⟨_, rfl, b2, c2, rfl, hc2.same ((s1.trans s2).trans s3), by omega, k⟩
      · refine ⟨D, [(c1.simple.length : Int), c2.simple.length], rfl, SqL.of hD, ?_⟩
        have q := q G ((s1.trans s2).trans s3)
        have e : (([(c1.simple.length : Int), c2.simple.length] : List Int).sum) = ((Cnd.simple (.both c1 c2)).length : Nat) := by
          show _ = ((c1.simple ++ c2.simple).length : Int)
          rw [List.length_append]
          simp
        rw [e]
        exact q
    | either c1 c2 =>
      obtain ⟨b1, b2, rfl, hc1, hc2⟩ := e3
      have hd : max c1.deep c2.deep + 1 < d + 1 := hd
      refine ixT (SqT.of e2) rfl ?_
      refine ⟨by rw [sizeLine_eq]; first | decide | simp, fun m nm => ?_⟩
      generalize hg : upd _ m _ = H1
      have s1 := sameOf nm hg
      have e1 := atOf hg
      clear hg
      refine ⟨m, _, rfl, .inr (SqT.of e1), rfl, rfl, false, (by decide +kernel), ?_⟩
      rw [if_neg (by simp)]
      have e2' := s1 _ _ e2
      refine tLcT_via ?_
      walk_at "nm"
      refine ⟨p, _, rfl, SqT.of e2', fun z => absurd z.1 (by show ¬ (1 = 0); decide), fun _ t nt => ?_⟩
      generalize hg : upd H1 t _ = H2
      have ht2 : H2 t = some (.tup [.ref b1, .ref b2]) := atOf hg
      have s2 := sameOf nt hg
      refine lc_mapT (rs := [.int c1.simple.length, .int c2.simple.length]) ht2 rfl (by show 2 ≤ 10000; decide) (fun Q' q' => q') (fun _ => rfl) (fun σ2 G Q' q' => q') (fun j x r G Q' hx hr s3 k => ?_) fun G D s3 _ hD => ?_
      · match j, hx, hr with
        | 0, hx, hr =>
          cases hx; cases hr
          exact ⟨_, rfl, b1, c1, rfl, hc1.same ((s1.trans s2).trans s3), by omega, k⟩
        | 1, hx, hr =>
          cases hx; cases hr
          exact ⟨_, rfl, b2, c2, rfl, hc2.same ((s1.trans s2).trans s3), by omega, k⟩
      · refine ⟨D, [(c1.simple.length : Int), c2.simple.length], rfl, SqL.of hD, ?_⟩
        have q := q G ((s1.trans s2).trans s3)
        have e : (([(c1.simple.length : Int), c2.simple.length] : List Int).sum) = ((Cnd.simple (.either c1 c2)).length : Nat) := by
          show _ = ((c1.simple ++ c2.simple).length : Int)
          rw [List.length_append]
          simp
        rw [e]
        exact q
    | opp c1 =>
      obtain ⟨b1, rfl, hc1⟩ := e3
      have hd : c1.deep + 1 < d + 1 := hd
      refine ixT (SqT.of e2) rfl ?_
      refine ⟨by rw [sizeLine_eq]; first | decide | simp, fun m nm => ?_⟩
      generalize hg : upd _ m _ = H1
      have s1 := sameOf nm hg
      have e1 := atOf hg
      clear hg
      refine ⟨m, _, rfl, .inr (SqT.of e1), rfl, rfl, false, (by decide +kernel), ?_⟩
      rw [if_neg (by simp)]
      have e2' := s1 _ _ e2
      refine tLcT_via ?_
      walk_at "nm"
      refine ⟨p, _, rfl, SqT.of e2', fun z => absurd z.1 (by show ¬ (1 = 0); decide), fun _ t nt => ?_⟩
      generalize hg : upd H1 t _ = H2
      have ht2 : H2 t = some (.tup [.ref b1]) := atOf hg
      have s2 := sameOf nt hg
      refine lc_mapT (rs := [.int c1.simple.length]) ht2 rfl (by show 1 ≤ 10000; decide) (fun Q' q' => q') (fun _ => rfl) (fun σ2 G Q' q' => q') (fun j x r G Q' hx hr s3 k => ?_) fun G D s3 _ hD => ?_
      · match j, hx, hr with
        | 0, hx, hr =>
          cases hx; cases hr
          exact ⟨_, rfl, b1, c1, rfl, hc1.same ((s1.trans s2).trans s3), by omega, k⟩
      · refine ⟨D, [(c1.simple.length : Int)], rfl, SqL.of hD, ?_⟩
        have q := q G ((s1.trans s2).trans s3)
        have e : (([(c1.simple.length : Int)] : List Int).sum) = ((Cnd.simple (.opp c1)).length : Nat) := by simp [Cnd.simple]
        rw [e]
        exact q

theorem sc__law_again : FnScope ["_law_condition_here", "_law_parts", "_law_one", "_law_other"] ["_law_condition_here"] (defScope s__law_again) := ⟨rfl, rfl, rfl, by decide +kernel, rfl, by decide +kernel, by decide +kernel⟩
theorem ok__law_again {P : Program} {w : World} {K : Frag} {mg : Str → Option Value} {base : Heap} (T : TxtP P K mg) {d : Nat} (IH : FnB P w K mg base (d + 20) (glA "_law_again" K) (SpLA K d)) : FnB P w K mg base (d + 20 + 1) (glA "_law_again" K) (SpLA K (d + 1)) := by
  refine okD (N := ["_law_condition_here", "_law_parts", "_law_one", "_law_other"]) (ps := ["_law_condition_here"]) (k := d + 20) (d := g__law_again) T.d__law_again rfl sc__law_again (fun vs H Q E h => ?_) (fun _ _ _ _ _ _ us hl => match us, hl with | [_], _ => rfl) (fun A outer s H vs Q E hr h => ?_)
  · obtain ⟨x, c, rfl, hx, hd, hf, hs, q⟩ := h
    rfl
  · have hrn := hr
    replace hr : Rm 20 _ := hr.mono (by omega)
    have hu := hr.hu
    obtain ⟨x, c, rfl, hx, hd, hf, hs, q⟩ := h
    refine ⟨_, PSs.nox ((pss_cons (ps_set (i := 1) sc__law_again.nd rfl (Or.inl rfl) (pe_exI fun c => pe_prF (pv 0) (clsOk T.toTxt c).c (pr_parts T.toTxt c) (ok_Condition_parts (K := K) T) hr passL))
      (pss_cons (ps_if (pt_cmpR op_eq (pe_ix ix_tup (pv 1) pe_int (fun _ _ => rfl)) pe_str (nomark _))
        (pss_one (ps_ret (pe_mkF T.k_Begins (ok_Begins_init (K := K) T) hr T.m_Begins passL (pa_cons (pe_ix ix_tup (pv 1) pe_int (fun _ _ => rfl)) pa_nil))))
        pss_nil)
      (pss_cons (ps_if (pt_cmpR op_in_seq (pe_ix ix_tup (pv 1) pe_int (fun _ _ => rfl)) (pe_tup (pa_cons pe_str (pa_cons pe_str pa_nil))) (by rfl))
        (pss_one (ps_ret (pe_ifExp (pt_cmpR op_eq (pe_ix ix_tup (pv 1) pe_int (fun _ _ => rfl)) pe_str (nomark _)) (pe_mkF T.k_Length (ok_Length_init (K := K) T) hr T.m_Length passL (pa_cons (pe_ix ix_tup (pv 1) pe_int (fun _ _ => rfl)) (pa_cons (pe_ix ix_tup (pv 1) pe_int (fun _ _ => rfl)) pa_nil))) (pe_mkF T.k_Value (ok_Value_init (K := K) T) hr T.m_Value passL (pa_cons (pe_ix ix_tup (pv 1) pe_int (fun _ _ => rfl)) (pa_cons (pe_ix ix_tup (pv 1) pe_int (fun _ _ => rfl)) pa_nil))))))
        pss_nil)
      (pss_cons (ps_if (pt_cmpR op_eq (pe_ix ix_tup (pv 1) pe_int (fun _ _ => rfl)) pe_str (nomark _))
        (pss_one (ps_ret (pe_un (un_invD (cs := csK K) (un_inv (K := K) T (by decide)) hr passL) (pe_cF IH hrn T.m__law_again passL (pa_cons (pe_ix ix_tup (pv 1) pe_int (fun _ _ => rfl)) pa_nil) (Nat.le_refl _)))))
        pss_nil)
      (pss_cons (ps_par (i := 2) (j := 3) (by rfl) sc__law_again.nd rfl rfl (by decide) rfl rfl (pa_cons (pe_cF IH hrn T.m__law_again passL (pa_cons (pe_ix ix_tup (pv 1) pe_int (fun _ _ => rfl)) pa_nil) (Nat.le_refl _)) (pa_cons (pe_cF IH hrn T.m__law_again passL (pa_cons (pe_ix ix_tup (pv 1) pe_int (fun _ _ => rfl)) pa_nil) (Nat.le_refl _)) pa_nil)) (by rfl))
      (pss_one (ps_ret (pe_ifExp (pt_cmpR op_eq (pe_ix ix_tup (pv 1) pe_int (fun _ _ => rfl)) pe_str (nomark _)) (pe_op (op_binD (cs := csK K) (bin_and (K := K) T (by decide)) hr passL) (pv 2) (pv 3)) (pe_op (op_binD (cs := csK K) (bin_or (K := K) T (by decide)) hr passL) (pv 2) (pv 3))))))))))), ?_⟩
    walk_at "nm"
    refine parts_c T.toTxt rfl hx fun p sh e2 e3 => ?_
    cases c with
    | beg t =>
      cases e3
      refine ixT (SqT.of e2) rfl ⟨rfl, if_eqS (fun _ => ?_) (fun h => absurd rfl h)⟩
      dsimp only [tMake]
      walk_at "nm"
      refine ixT (SqT.of e2) rfl ?_
      intro y dx ny ndx ney
      generalize hg : upd (upd _ dx _) y _ = H2
      have s2 := madeOf ny ndx ney hg
      have e4 := atOf hg
      clear hg
      exact ⟨y, dx, t, rfl, e4, hf.1, hf.2, fun H' hc ex => ⟨rfl, q y H' (same_new ny s2 ex) hc⟩⟩
    | len a b =>
      cases e3
      refine ixT (SqT.of e2) rfl ⟨rfl, if_eqS (fun h => absurd h (by decide +kernel)) (fun _ => ?_)⟩
      refine ixT (SqT.of e2) rfl ?_
      refine ⟨by rw [sizeLine_eq]; first | decide | simp, fun m nm => ?_⟩
      generalize hg : upd _ m _ = H1
      have s1 := sameOf nm hg
      have e1 := atOf hg
      clear hg
      refine ⟨m, _, rfl, .inr (SqT.of e1), rfl, rfl, true, (by decide +kernel), ?_⟩
      rw [if_pos rfl]
      have e2' := s1 _ _ e2
      refine ixT (SqT.of e2') rfl ⟨rfl, if_eqS (fun _ => ?_) (fun h => absurd rfl h)⟩
      dsimp only [tMake]
      walk_at "nm"
      refine ixT (SqT.of e2') rfl ?_
      refine ixT (SqT.of e2') rfl ?_
      intro y dx ny ndx ney
      generalize hg : upd (upd _ dx _) y _ = H2
      have s2 := madeOf ny ndx ney hg
      have e4 := atOf hg
      clear hg
      exact ⟨y, dx, a, b, rfl, e4, hf.1, hf.2.1, hf.2.2, fun H' hc ex => ⟨rfl, q y H' (s1.trans (same_new ny s2 ex)) hc⟩⟩
    | val a b =>
      cases e3
      refine ixT (SqT.of e2) rfl ⟨rfl, if_eqS (fun h => absurd h (by decide +kernel)) (fun _ => ?_)⟩
      refine ixT (SqT.of e2) rfl ?_
      refine ⟨by rw [sizeLine_eq]; first | decide | simp, fun m nm => ?_⟩
      generalize hg : upd _ m _ = H1
      have s1 := sameOf nm hg
      have e1 := atOf hg
      clear hg
      refine ⟨m, _, rfl, .inr (SqT.of e1), rfl, rfl, true, (by decide +kernel), ?_⟩
      rw [if_pos rfl]
      have e2' := s1 _ _ e2
      refine ixT (SqT.of e2') rfl ⟨rfl, if_eqS (fun h => absurd h (by decide +kernel)) (fun _ => ?_)⟩
      dsimp only [tMake]
      walk_at "nm"
      refine ixT (SqT.of e2') rfl ?_
      refine ixT (SqT.of e2') rfl ?_
      intro y dx ny ndx ney
      generalize hg : upd (upd _ dx _) y _ = H2
      have s2 := madeOf ny ndx ney hg
      have e4 := atOf hg
      clear hg
      exact ⟨y, dx, a, b, rfl, e4, hf.2.2, fun H' hc ex => ⟨rfl, q y H' (s1.trans (same_new ny s2 ex)) hc⟩⟩
    | both c1 c2 =>
      obtain ⟨b1, b2, rfl, hc1, hc2⟩ := e3
      have hd : max c1.deep c2.deep + 1 < d + 1 := hd
      have hs : (c1.simple ++ c2.simple).length ≤ 30 := hs
      rw [List.length_append] at hs
      refine ixT (SqT.of e2) rfl ⟨rfl, if_eqS (fun h => absurd h (by decide +kernel)) (fun _ => ?_)⟩
      refine ixT (SqT.of e2) rfl ?_
      refine ⟨by rw [sizeLine_eq]; first | decide | simp, fun m nm => ?_⟩
      generalize hg : upd _ m _ = H1
      have s1 := sameOf nm hg
      have e1 := atOf hg
      clear hg
      refine ⟨m, _, rfl, .inr (SqT.of e1), rfl, rfl, false, (by decide +kernel), ?_⟩
      rw [if_neg (by simp)]
      have e2' := s1 _ _ e2
      refine ixT (SqT.of e2') rfl ⟨rfl, if_eqS (fun h => absurd h (by decide +kernel)) (fun _ => ?_)⟩
      refine ixT (SqT.of e2') rfl ⟨b1, c1, rfl, hc1.same s1, by omega, hf.1, by omega, fun y1 H2 s2 hy1 => ?_⟩
      refine ixT (SqT.of (s2 _ _ e2')) rfl ⟨b2, c2, rfl, hc2.same (s1.trans s2), by omega, hf.2, by omega, fun y2 H3 s3 hy2 => ?_⟩
      refine ⟨_, _, ⟨rfl, rfl⟩, ixT (SqT.of (s3 _ _ (s2 _ _ e2'))) rfl ⟨rfl, if_eqS (fun _ => ?_) (fun h => absurd rfl h)⟩⟩
      exact bin_c (hy1.same s3) hy2 ⟨y1, y2, c1, c2, rfl, hy1.same s3, hy2, hs, fun y H4 s4 hy => q y H4 (((s1.trans s2).trans s3).trans s4) ⟨y1, y2, hy, (hy1.same s3).same s4, hy2.same s4⟩⟩
    | either c1 c2 =>
      obtain ⟨b1, b2, rfl, hc1, hc2⟩ := e3
      have hd : max c1.deep c2.deep + 1 < d + 1 := hd
      have hs : (c1.simple ++ c2.simple).length ≤ 30 := hs
      rw [List.length_append] at hs
      refine ixT (SqT.of e2) rfl ⟨rfl, if_eqS (fun h => absurd h (by decide +kernel)) (fun _ => ?_)⟩
      refine ixT (SqT.of e2) rfl ?_
      refine ⟨by rw [sizeLine_eq]; first | decide | simp, fun m nm => ?_⟩
      generalize hg : upd _ m _ = H1
      have s1 := sameOf nm hg
      have e1 := atOf hg
      clear hg
      refine ⟨m, _, rfl, .inr (SqT.of e1), rfl, rfl, false, (by decide +kernel), ?_⟩
      rw [if_neg (by simp)]
      have e2' := s1 _ _ e2
      refine ixT (SqT.of e2') rfl ⟨rfl, if_eqS (fun h => absurd h (by decide +kernel)) (fun _ => ?_)⟩
      refine ixT (SqT.of e2') rfl ⟨b1, c1, rfl, hc1.same s1, by omega, hf.1, by omega, fun y1 H2 s2 hy1 => ?_⟩
      refine ixT (SqT.of (s2 _ _ e2')) rfl ⟨b2, c2, rfl, hc2.same (s1.trans s2), by omega, hf.2, by omega, fun y2 H3 s3 hy2 => ?_⟩
      refine ⟨_, _, ⟨rfl, rfl⟩, ixT (SqT.of (s3 _ _ (s2 _ _ e2'))) rfl ⟨rfl, if_eqS (fun h => absurd h (by decide +kernel)) (fun _ => ?_)⟩⟩
      exact bin_c (hy1.same s3) hy2 ⟨y1, y2, c1, c2, rfl, hy1.same s3, hy2, hs, fun y H4 s4 hy => q y H4 (((s1.trans s2).trans s3).trans s4) ⟨y1, y2, hy, (hy1.same s3).same s4, hy2.same s4⟩⟩
    | opp c1 =>
      obtain ⟨b1, rfl, hc1⟩ := e3
      have hd : c1.deep + 1 < d + 1 := hd
      refine ixT (SqT.of e2) rfl ⟨rfl, if_eqS (fun h => absurd h (by decide +kernel)) (fun _ => ?_)⟩
      refine ixT (SqT.of e2) rfl ?_
      refine ⟨by rw [sizeLine_eq]; first | decide | simp, fun m nm => ?_⟩
      generalize hg : upd _ m _ = H1
      have s1 := sameOf nm hg
      have e1 := atOf hg
      clear hg
      refine ⟨m, _, rfl, .inr (SqT.of e1), rfl, rfl, false, (by decide +kernel), ?_⟩
      rw [if_neg (by simp)]
      have e2' := s1 _ _ e2
      refine ixT (SqT.of e2') rfl ⟨rfl, if_eqS (fun _ => ?_) (fun h => absurd rfl h)⟩
      refine ixT (SqT.of e2') rfl ⟨b1, c1, rfl, hc1.same s1, by omega, hf, hs, fun y1 H2 s2 hy1 => ?_⟩
      exact inv_c hy1 ⟨y1, c1, rfl, hy1, fun y H3 s3 hy => q y H3 ((s1.trans s2).trans s3) ⟨y1, hy, hy1.same s3⟩⟩

theorem lholds_all {P : Program} {w : World} {K : Frag} {mg : Str → Option Value} {base : Heap} (T : TxtP P K mg) : ∀ d, FnB P w K mg base (d + 20) (glA "_law_holds" K) (SpLH K d)
  | 0 => FnB.none (kpS T.d__law_holds) fun vs H Q E ⟨_, _, _, _, _, _, h, _⟩ => absurd h (Nat.not_lt_zero _)
  | d + 1 => FnB.mono (ok__law_holds T (lholds_all T d)) (by omega)
theorem ltext_all {P : Program} {w : World} {K : Frag} {mg : Str → Option Value} {base : Heap} (T : TxtP P K mg) : ∀ d, FnB P w K mg base (d + 20) (glA "_law_text" K) (SpLT K d)
  | 0 => FnB.none (kpS T.d__law_text) fun vs H Q E ⟨_, _, _, _, h, _⟩ => absurd h (Nat.not_lt_zero _)
  | d + 1 => FnB.mono (ok__law_text T (ltext_all T d)) (by omega)
theorem lmany_all {P : Program} {w : World} {K : Frag} {mg : Str → Option Value} {base : Heap} (T : TxtP P K mg) : ∀ d, FnB P w K mg base (d + 20) (glA "_law_many" K) (SpLM K d)
  | 0 => FnB.none (kpS T.d__law_many) fun vs H Q E ⟨_, _, _, _, h, _⟩ => absurd h (Nat.not_lt_zero _)
  | d + 1 => FnB.mono (ok__law_many T (lmany_all T d)) (by omega)
theorem lagain_all {P : Program} {w : World} {K : Frag} {mg : Str → Option Value} {base : Heap} (T : TxtP P K mg) : ∀ d, FnB P w K mg base (d + 20) (glA "_law_again" K) (SpLA K d)
  | 0 => FnB.none (kpS T.d__law_again) fun vs H Q E ⟨_, _, _, _, h, _⟩ => absurd h (Nat.not_lt_zero _)
  | d + 1 => FnB.mono (ok__law_again T (lagain_all T d)) (by omega)

/-! the text of a condition tells the condition -/
def encI (i : Int) : List Nat := (Str.ofString (toString i)).cps.toList
def decI (l : List Nat) : Int := match l with
  | 45 :: r => -((r.foldl (fun n c => n * 10 + (c - 48)) 0 : Nat) : Int)
  | r => ((r.foldl (fun n c => n * 10 + (c - 48)) 0 : Nat) : Int)
theorem encI_all : ∀ n, n < 201 → (decide (decI (encI ((n : Nat) - 100 : Int)) = (n : Nat) - 100) && ((encI ((n : Nat) - 100 : Int)).all (fun c => c != 44 && (c != 41 && c != 78)) && decide ((encI ((n : Nat) - 100 : Int)).length ≤ 4))) = true := by decide +kernel
def smI (i : Int) : Prop := -100 ≤ i ∧ i ≤ 100
theorem encI_at {i : Int} (h : smI i) : decI (encI i) = i ∧ (∀ c ∈ encI i, c ≠ 44 ∧ c ≠ 41 ∧ c ≠ 78) ∧ (encI i).length ≤ 4 := by
  obtain ⟨h1, h2⟩ := h
  have z := encI_all (i + 100).toNat (by omega)
  have e : (((i + 100).toNat : Nat) : Int) - 100 = i := by omega
  rw [e] at z
  simp only [Bool.and_eq_true, decide_eq_true_eq, List.all_eq_true, bne_iff_ne, ne_eq] at z
  exact ⟨z.1, fun c hc => ⟨(z.2.1 c hc).1, (z.2.1 c hc).2.1, (z.2.1 c hc).2.2⟩, z.2.2⟩
theorem encI_inj {i j : Int} (hi : smI i) (hj : smI j) (h : encI i = encI j) : i = j := by rw [← (encI_at hi).1, h, (encI_at hj).1]
def encO : Option Int → List Nat
  | none => [78, 111, 110, 101]
  | some i => encI i
def smOI (o : Option Int) : Prop := ∀ i, o = some i → smI i
theorem encO_inj {a b : Option Int} (ha : smOI a) (hb : smOI b) (h : encO a = encO b) : a = b := by
  cases a with
  | none =>
    cases b with
    | none => rfl
    | some j =>
      have := ((encI_at (hb j rfl)).2.1 78 (by rw [show encI j = encO (some j) from rfl, ← h]; decide)).2.2
      exact absurd rfl this
  | some i =>
    cases b with
    | none =>
      have := ((encI_at (ha i rfl)).2.1 78 (by rw [show encI i = encO (some i) from rfl, h]; decide)).2.2
      exact absurd rfl this
    | some j => rw [encI_inj (ha i rfl) (hb j rfl) h]
theorem encO_no {a : Option Int} (ha : smOI a) : 44 ∉ encO a ∧ 41 ∉ encO a ∧ (encO a).length ≤ 4 := by
  cases a with
  | none => exact ⟨by decide, by decide, by decide⟩
  | some i =>
    have z := encI_at (ha i rfl)
    exact ⟨fun h => (z.2.1 _ h).1 rfl, fun h => (z.2.1 _ h).2.1 rfl, z.2.2⟩
theorem sep_inj {k : Nat} : ∀ {x y s t : List Nat}, k ∉ x → k ∉ y → x ++ k :: s = y ++ k :: t → x = y ∧ s = t
  | [], [], _, _, _, _, h => by
    simp at h
    exact ⟨rfl, h⟩
  | [], b :: y, _, _, _, hy, h => by
    simp at h
    exact absurd (by rw [h.1]; exact List.mem_cons_self) hy
  | a :: x, [], _, _, hx, _, h => by
    simp at h
    exact absurd (by rw [← h.1]; exact List.mem_cons_self) hx
  | a :: x, b :: y, s, t, hx, hy, h => by
    simp only [List.cons_append, List.cons.injEq] at h
    obtain ⟨e1, e2⟩ := sep_inj (fun z => hx (List.mem_cons_of_mem _ z)) (fun z => hy (List.mem_cons_of_mem _ z)) h.2
    exact ⟨by rw [h.1, e1], e2⟩
def Cnd.tiny : Cnd → Prop
  | .beg t => t.length ≤ 20 ∧ t.cps.toList.all keySign = true
  | .len a b => smI a ∧ smI b
  | .val a b => smOI a ∧ smOI b
  | .both x y => x.tiny ∧ y.tiny
  | .either x y => x.tiny ∧ y.tiny
  | .opp x => x.tiny
def Cnd.codes : Cnd → List Nat
  | .beg t => [66, 101, 103, 105, 110, 115, 40, 39] ++ (t.cps.toList ++ 39 :: [41])
  | .len a b => [76, 101, 110, 103, 116, 104, 40] ++ (encI a ++ 44 :: (32 :: (encI b ++ 41 :: [])))
  | .val a b => [86, 97, 108, 117, 101, 40] ++ (encO a ++ 44 :: (32 :: (encO b ++ 41 :: [])))
  | .both x y => 40 :: (x.codes ++ (32 :: 38 :: 32 :: (y.codes ++ [41])))
  | .either x y => 40 :: (x.codes ++ (32 :: 124 :: 32 :: (y.codes ++ [41])))
  | .opp x => 126 :: x.codes
theorem key_no39 {l : List Nat} (h : l.all keySign = true) : 39 ∉ l := fun z => by
  have := List.all_eq_true.mp h 39 z
  exact absurd this (by decide)
theorem codes_inj : ∀ (c d : Cnd) (s t : List Nat), c.tiny → d.tiny → c.codes ++ s = d.codes ++ t → c = d ∧ s = t := by
  intro c
  induction c with
  | beg x =>
    intro d s t hc hd h
    cases d with
    | beg y =>
      simp only [Cnd.codes, List.append_assoc, List.cons_append, List.nil_append, List.cons.injEq, true_and] at h
      obtain ⟨e1, e2⟩ := sep_inj (key_no39 hc.2) (key_no39 hd.2) h
      simp at e2
      exact ⟨by rw [Str.ext' (Array.toList_inj.mp e1)], e2⟩
    | _ => simp [Cnd.codes] at h
  | len a b =>
    intro d s t hc hd h
    cases d with
    | len a' b' =>
      simp only [Cnd.codes, List.append_assoc, List.cons_append, List.nil_append, List.cons.injEq, true_and] at h
      obtain ⟨e1, e2⟩ := sep_inj (fun z => ((encI_at hc.1).2.1 _ z).1 rfl) (fun z => ((encI_at hd.1).2.1 _ z).1 rfl) h
      simp only [List.cons.injEq, true_and] at e2
      obtain ⟨e3, e4⟩ := sep_inj (fun z => ((encI_at hc.2).2.1 _ z).2.1 rfl) (fun z => ((encI_at hd.2).2.1 _ z).2.1 rfl) e2
      exact ⟨by rw [encI_inj hc.1 hd.1 e1, encI_inj hc.2 hd.2 e3], e4⟩
    | _ => simp [Cnd.codes] at h
  | val a b =>
    intro d s t hc hd h
    cases d with
    | val a' b' =>
      simp only [Cnd.codes, List.append_assoc, List.cons_append, List.nil_append, List.cons.injEq, true_and] at h
      obtain ⟨e1, e2⟩ := sep_inj (encO_no hc.1).1 (encO_no hd.1).1 h
      simp only [List.cons.injEq, true_and] at e2
      obtain ⟨e3, e4⟩ := sep_inj (encO_no hc.2).2.1 (encO_no hd.2).2.1 e2
      exact ⟨by rw [encO_inj hc.1 hd.1 e1, encO_inj hc.2 hd.2 e3], e4⟩
    | _ => simp [Cnd.codes] at h
  | both x y ihx ihy =>
    intro d s t hc hd h
    cases d with
    | both x' y' =>
      simp only [Cnd.codes, List.append_assoc, List.cons_append, List.nil_append, List.cons.injEq, true_and] at h
      obtain ⟨rfl, e2⟩ := ihx _ _ _ hc.1 hd.1 h
      simp only [List.cons.injEq, true_and] at e2
      obtain ⟨rfl, e4⟩ := ihy _ _ _ hc.2 hd.2 e2
      simp at e4
      exact ⟨rfl, e4⟩
    | either x' y' =>
      simp only [Cnd.codes, List.append_assoc, List.cons_append, List.nil_append, List.cons.injEq, true_and] at h
      obtain ⟨rfl, e2⟩ := ihx _ _ _ hc.1 hd.1 h
      simp at e2
    | _ => simp [Cnd.codes] at h
  | either x y ihx ihy =>
    intro d s t hc hd h
    cases d with
    | either x' y' =>
      simp only [Cnd.codes, List.append_assoc, List.cons_append, List.nil_append, List.cons.injEq, true_and] at h
      obtain ⟨rfl, e2⟩ := ihx _ _ _ hc.1 hd.1 h
      simp only [List.cons.injEq, true_and] at e2
      obtain ⟨rfl, e4⟩ := ihy _ _ _ hc.2 hd.2 e2
      simp at e4
      exact ⟨rfl, e4⟩
    | both x' y' =>
      simp only [Cnd.codes, List.append_assoc, List.cons_append, List.nil_append, List.cons.injEq, true_and] at h
      obtain ⟨rfl, e2⟩ := ihx _ _ _ hc.1 hd.1 h
      simp at e2
    | _ => simp [Cnd.codes] at h
  | opp x ih =>
    intro d s t hc hd h
    cases d with
    | opp x' =>
      simp only [Cnd.codes, List.cons_append, List.cons.injEq, true_and] at h
      obtain ⟨rfl, e2⟩ := ih x' s t hc hd h
      exact ⟨rfl, e2⟩
    | _ => simp [Cnd.codes] at h
theorem reprChar_key {c : Nat} (h : keySign c = true) : _root_.PySem.Builtin.Str.reprChar 39 c = [c] := by
  have hc : c < 123 := by
    unfold keySign at h
    simp only [Bool.or_eq_true, Bool.and_eq_true, decide_eq_true_eq] at h
    omega
  have all : ∀ n, n < 123 → keySign n = true → _root_.PySem.Builtin.Str.reprChar 39 n = [n] := by decide +kernel
  exact all c hc h
theorem repr_fold_key : ∀ (l : List Nat) (acc : Array Nat), l.all keySign = true → (l.foldl (fun out c => out ++ (_root_.PySem.Builtin.Str.reprChar 39 c).toArray) acc).toList = acc.toList ++ l
  | [], acc, _ => by simp
  | c :: r, acc, h => by
    rw [List.all_cons, Bool.and_eq_true] at h
    rw [List.foldl_cons, repr_fold_key r _ h.2, reprChar_key h.1]
    simp
theorem repr_key {t : Str} (h : t.cps.toList.all keySign = true) : (reprText t).cps.toList = 39 :: (t.cps.toList ++ [39]) := by
  have hq : reprQuote t = 39 := by
    unfold reprQuote
    have : t.cps.contains 39 = false := by
      rw [Bool.eq_false_iff]
      intro z
      rw [Array.contains_iff_mem] at z
      exact key_no39 h (Array.mem_toList_iff.mpr z)
    rw [this]
    rfl
  unfold reprText
  rw [hq, Array.toList_push, ← Array.foldl_toList, repr_fold_key _ _ h]
  rfl
theorem fine_tiny : ∀ {c : Cnd}, c.fine → c.tiny
  | .beg _, h => h
  | .len _ _, h => ⟨⟨by have := h.1; omega, by have := h.2; omega⟩, ⟨by have := h.2; have := h.1; omega, by have := h.2; omega⟩⟩
  | .val _ _, h => ⟨h.1, h.2.1⟩
  | .both _ _, h => ⟨fine_tiny h.1, fine_tiny h.2⟩
  | .either _ _, h => ⟨fine_tiny h.1, fine_tiny h.2⟩
  | .opp x, h => fine_tiny (c := x) h
theorem oT_codes {o : Option Int} : (oT o).cps.toList = encO o := by
  cases o with
  | none => decide +kernel
  | some i => rfl
theorem text_codes : ∀ {c : Cnd}, c.tiny → c.text.cps.toList = c.codes
  | .beg t, h => by
    have e1 : (Str.ofString "Begins(").cps.toList = [66, 101, 103, 105, 110, 115, 40] := by decide +kernel
    have e2 : (Str.ofString ")").cps.toList = [41] := by decide +kernel
    simp only [Cnd.text, Cnd.codes, Str.cps_append, Array.toList_append, e1, e2, repr_key h.2]
    simp
  | .len a b, h => by
    have e1 : (Str.ofString "Length(").cps.toList = [76, 101, 110, 103, 116, 104, 40] := by decide +kernel
    have e2 : (Str.ofString ")").cps.toList = [41] := by decide +kernel
    have e3 : (Str.ofString ", ").cps.toList = [44, 32] := by decide +kernel
    simp only [Cnd.text, Cnd.codes, Str.cps_append, Array.toList_append, e1, e2, e3, encI]
    simp
  | .val a b, h => by
    have e1 : (Str.ofString "Value(").cps.toList = [86, 97, 108, 117, 101, 40] := by decide +kernel
    have e2 : (Str.ofString ")").cps.toList = [41] := by decide +kernel
    have e3 : (Str.ofString ", ").cps.toList = [44, 32] := by decide +kernel
    simp only [Cnd.text, Cnd.codes, Str.cps_append, Array.toList_append, e1, e2, e3, oT_codes]
    simp
  | .both x y, h => by
    have e1 : (Str.ofString "(").cps.toList = [40] := by decide +kernel
    have e2 : (Str.ofString ")").cps.toList = [41] := by decide +kernel
    have e3 : (Str.ofString " & ").cps.toList = [32, 38, 32] := by decide +kernel
    simp only [Cnd.text, Cnd.codes, Str.cps_append, Array.toList_append, e1, e2, e3, text_codes h.1, text_codes h.2]
    simp
  | .either x y, h => by
    have e1 : (Str.ofString "(").cps.toList = [40] := by decide +kernel
    have e2 : (Str.ofString ")").cps.toList = [41] := by decide +kernel
    have e3 : (Str.ofString " | ").cps.toList = [32, 124, 32] := by decide +kernel
    simp only [Cnd.text, Cnd.codes, Str.cps_append, Array.toList_append, e1, e2, e3, text_codes h.1, text_codes h.2]
    simp
  | .opp x, h => by
    have e1 : (Str.ofString "~").cps.toList = [126] := by decide +kernel
    simp only [Cnd.text, Cnd.codes, Str.cps_append, Array.toList_append, e1, text_codes (c := x) h]
    simp
theorem text_inj {c d : Cnd} (hc : c.fine) (hd : d.fine) (h : c.text = d.text) : c = d := by
  have h1 := text_codes (fine_tiny hc)
  have h2 := text_codes (fine_tiny hd)
  rw [h] at h1
  exact (codes_inj c d [] [] (fine_tiny hc) (fine_tiny hd) (by rw [← h1, ← h2])).1
theorem codes_len : ∀ {c : Cnd} {m : Nat}, c.tiny → c.deep ≤ m → c.codes.length + 10 ≤ 50 * 2 ^ m
  | .beg t, m, h, _ => by
    have := Nat.one_le_two_pow (n := m)
    have e : t.cps.toList.length = t.length := by simp [Str.length]
    have := h.1
    simp only [Cnd.codes, List.length_append, List.length_cons, List.length_nil]
    omega
  | .len a b, m, h, _ => by
    have := Nat.one_le_two_pow (n := m)
    have := (encI_at h.1).2.2
    have := (encI_at h.2).2.2
    simp only [Cnd.codes, List.length_append, List.length_cons, List.length_nil]
    omega
  | .val a b, m, h, _ => by
    have := Nat.one_le_two_pow (n := m)
    have := (encO_no h.1).2.2
    have := (encO_no h.2).2.2
    simp only [Cnd.codes, List.length_append, List.length_cons, List.length_nil]
    omega
  | .both x y, 0, h, hm => absurd hm (by show ¬ (max x.deep y.deep + 1 ≤ 0); omega)
  | .both x y, m + 1, h, hm => by
    have hm : max x.deep y.deep + 1 ≤ m + 1 := hm
    have h1 := codes_len h.1 (m := m) (by omega)
    have h2 := codes_len h.2 (m := m) (by omega)
    simp only [Cnd.codes, List.length_append, List.length_cons, List.length_nil, Nat.pow_succ]
    omega
  | .either x y, 0, h, hm => absurd hm (by show ¬ (max x.deep y.deep + 1 ≤ 0); omega)
  | .either x y, m + 1, h, hm => by
    have hm : max x.deep y.deep + 1 ≤ m + 1 := hm
    have h1 := codes_len h.1 (m := m) (by omega)
    have h2 := codes_len h.2 (m := m) (by omega)
    simp only [Cnd.codes, List.length_append, List.length_cons, List.length_nil, Nat.pow_succ]
    omega
  | .opp x, 0, h, hm => absurd hm (by show ¬ (x.deep + 1 ≤ 0); omega)
  | .opp x, m + 1, h, hm => by
    have hm : x.deep + 1 ≤ m + 1 := hm
    have h1 := codes_len (c := x) h (m := m) (by omega)
    simp only [Cnd.codes, List.length_cons, Nat.pow_succ]
    omega
theorem text_len {c : Cnd} (hc : c.fine) (hd : c.deep ≤ 6) : c.text.length ≤ 5000 := by
  have h := codes_len (fine_tiny hc) hd
  have e : c.text.length = c.codes.length := by
    rw [← text_codes (fine_tiny hc)]
    simp [Str.length]
  rw [e]
  have : 2 ^ 6 = 64 := by decide
  omega

def sp__law_right (K : Frag) : Sp := fun vs H Q _ => ∃ (pl x : Addr) (c : Cnd), vs = [.ref pl, .ref x] ∧ PoolAt H pl ∧ CondAt K H x c ∧ c.deep ≤ 5 ∧ c.fine ∧ c.simple.length ≤ 30 ∧ ∀ H', PoolAt H' pl → Ex pl H H' → Q (.bl true) H'
theorem sc__law_right : FnScope ["_law_pool", "_law_condition_here", "_law_turn", "_law_key_here", "_law_value"] ["_law_pool", "_law_condition_here"] (defScope s__law_right) := ⟨rfl, rfl, rfl, by decide +kernel, rfl, by decide +kernel, by decide +kernel⟩
theorem ok__law_right {P : Program} {w : World} {K : Frag} {mg : Str → Option Value} {base : Heap} (T : TxtP P K mg) : FnB P w K mg base 39 (glA "_law_right" K) (sp__law_right K) := by
  refine okD (N := ["_law_pool", "_law_condition_here", "_law_turn", "_law_key_here", "_law_value"]) (ps := ["_law_pool", "_law_condition_here"]) (k := 38) (d := g__law_right) T.d__law_right rfl sc__law_right (fun vs H Q E h => ?_) (fun _ _ _ _ _ _ us hl => match us, hl with | [_, _], _ => rfl) (fun A outer s H vs Q E hr h => ?_)
  · obtain ⟨pl, x, c, rfl, hp, hx, hd, hf, hs, q⟩ := h
    rfl
  · have hu := hr.hu
    obtain ⟨pl, x, c, rfl, hp, hx, hd, hf, hs, q⟩ := h
    refine ⟨_, PSs.nox ((pss_cons (ps_for PassesOwn.never rfl (pi_range1 (by rfl) T.b_range (pa_cons pe_int pa_nil)) (pg_name (i := 2) sc__law_right.nd rfl (Or.inl rfl))
        (pss_cons (ps_par (i := 3) (j := 4) (by rfl) sc__law_right.nd rfl rfl (by decide) rfl rfl (pa_cons (pe_ix ix_list (pe_lst (pa_cons (pe_cF (ok__law_key (K := K) T) hr T.m__law_key passL (pa_cons (pv 0) (pa_cons pe_int pa_nil))) (pa_cons (pe_op op_rep_str pe_str pe_int) pa_nil))) (pe_cF (ok__law_draw (K := K) T) hr T.m__law_draw passL (pa_cons (pv 0) (pa_cons pe_int pa_nil))) (fun _ _ => rfl)) (pa_cons (pe_op op_sub (pe_cF (ok__law_draw (K := K) T) hr T.m__law_draw passL (pa_cons (pv 0) (pa_cons pe_int pa_nil))) pe_int) pa_nil)) (by rfl))
        (pss_one (ps_if (pt_cmpR op_ne (pe_callB (call_reprV hr.g (hu99 hr)) (by rfl) T.b_repr (by decide +kernel) (pa_cons (pe_exI fun c => pe_coF (pv 1) (mt_call T.toTxt c) T.y_Condition_call (ok_Condition_call (K := K) T) hr passL (pa_cons (pv 3) (pa_cons (pv 4) pa_nil))) pa_nil)) (pe_callB (call_reprV hr.g (hu99 hr)) (by rfl) T.b_repr (by decide +kernel) (pa_cons (pe_cF (lholds_all (K := K) T 8) hr T.m__law_holds passL (pa_cons (pv 1) (pa_cons (pv 3) (pa_cons (pv 4) pa_nil)))) pa_nil)) (nomark _))
          (pss_one (ps_ret pe_bl))
          pss_nil))))
      (pss_cons (ps_if (PW.pt (pw_or (pt_not (pt_val (pe_callB call_isi (by rfl) T.b_isinstance (by decide +kernel) (pa_cons (pv 1) (pa_cons (pe_gc (v := .ref (ga K "Condition")) (by rfl) ⟨_, T.m_Condition, rfl⟩) pa_nil))))) (pw_or1 (pt_cmpR op_ne (pe_callB (cr_exI fun c => call_lenO (mt_len T.toTxt c) (ok_Condition_len (K := K) T) hr passL) (by rfl) T.b_len (by decide +kernel) (pa_cons (pv 1) pa_nil)) (pe_cF (lmany_all (K := K) T 8) hr T.m__law_many passL (pa_cons (pv 1) pa_nil)) (nomark _)))))
        (pss_one (ps_ret pe_bl))
        pss_nil)
      (pss_one (ps_ret (pe_and (pe_cmpR op_eq (pe_callB (cr_exI fun c => call_reprO (mt_repr T.toTxt c) (repr_all T 8 c) hr passL) (by rfl) T.b_repr (by decide +kernel) (pa_cons (pv 1) pa_nil)) (pe_cF (ltext_all (K := K) T 8) hr T.m__law_text passL (pa_cons (pv 1) pa_nil)) (nomark _)) (pe_one (pe_cmpR (op_exI fun c => op_eqO (mt_eq T.toTxt c) (eq_all T 8) hr passL) (pv 1) (pe_cF (lagain_all (K := K) T 8) hr T.m__law_again passL (pa_cons (pv 1) pa_nil)) (nomark _))))))))), ?_⟩
    refine seq_gen (fun σ' H' => (∃ v2 v3 v4, σ' = [some (.ref pl), some (.ref x), v2, v3, v4]) ∧ PoolAt H' pl ∧ Ex pl H H') (fun N hN => ?_) ?_
    · walk_at "nm"
      refine ⟨_, rfl, by decide, by decide, for_range (n := 12) (fun j σ' H' => (∃ v2 v3 v4, σ' = [some (.ref pl), some (.ref x), v2, v3, v4]) ∧ PoolAt H' pl ∧ Ex pl H H') ⟨⟨_, _, _, rfl⟩, hp, Ex.refl⟩ ?_ fun σ' H' h => hN _ _ h⟩
      rintro j σ' H1 hj ⟨⟨v2, v3, v4, rfl⟩, hp1, x1⟩
      dsimp only [gName]
      simp only [List.set_cons_succ, List.set_cons_zero]
      walk_at "nm"
      refine ⟨pl, 5, rfl, hp1, by decide, by decide, fun z H2 kz lz hp2 x2 => ?_⟩
      refine ⟨Str.ofString "ab", 10, rfl, rfl, by decide +kernel, by decide +kernel, by decide, ?_⟩
      refine ⟨by rw [sizeLine_eq]; first | decide | simp, fun p np => ?_⟩
      generalize hg : upd _ p _ = H3
      have s3 := sameOf np hg
      have e3 := atOf hg
      clear hg
      refine ⟨pl, 2, rfl, hp2.same s3, by decide, by decide, fun u H4 u0 u2 hp4 x4 => ?_⟩
      have e4 := x4 p _ (hp2.ne np) e3
      obtain ⟨y, hy, ky⟩ : ∃ y : Str, atI [V.str z, V.str (PySem.Txt.mul (Str.ofString "ab") (10 : Nat))] u = some (.str y) ∧ isKeyL y.cps.toList = true := by
        rcases pick2 u0 u2 with h | h
        · exact ⟨_, h, kz⟩
        · exact ⟨_, h, by decide +kernel⟩
      have yl : y.length ≤ 20 := by
        have ky := ky
        unfold isKeyL at ky
        simp only [Bool.and_eq_true, decide_eq_true_eq] at ky
        have := str_len y
        omega
      refine ixL (SqL.of e4) hy ?_
      refine ⟨pl, 15, rfl, hp4, by decide, by decide, fun t H5 t0 t15 hp5 x5 => ⟨t, rfl, _, _, ⟨rfl, rfl⟩, c, ?_⟩⟩
      have y5 : Ex pl H H5 := fun b o n h => x5 b o n (x4 b o n (s3 b o (x2 b o n (x1 b o n h))))
      have hx5 : CondAt K H5 x c := hx.pool hp y5
      obtain ⟨dx, p', l, us, sh, e5, _⟩ := hx5.shp
      refine ⟨_, rfl, x, rfl, ?_⟩
      walk_at "nm"
      refine ⟨⟨_, _, e5⟩, x, c, y, t - 7, rfl, hx5, by omega, hf, ky, fun H6 s6 => ?_⟩
      refine ⟨_, _, rfl, rp_bl _, ?_⟩
      refine ⟨x, c, y, t - 7, rfl, hx5.same s6, by omega, hf, by omega, fun H7 s7 => ?_⟩
      refine ⟨_, _, rfl, rp_bl _, ?_⟩
      refine ⟨rfl, _, rfl, ?_⟩
      rw [if_neg (by simp)]
      exact ⟨⟨_, rfl⟩, (hp5.same s6).same s7, fun b o n h => s7 b o (s6 b o (y5 b o n h))⟩
    rintro σ' H1 ⟨⟨v2, v3, v4, rfl⟩, hp1, x1⟩
    have hx1 := hx.pool hp x1
    walk_at "nm"
    have tl := text_len hf (by omega)
    have bg : 100000 ≤ sizeLine := by rw [sizeLine_eq]; omega
    refine isiCnd T.toTxt hx1 ⟨_, rfl, ?_⟩
    rw [if_neg (by simp)]
    obtain ⟨dx, p, l, us, sh, e1, _⟩ := hx1.shp
    refine ⟨c, x, dx, _, rfl, e1, x, c, rfl, hx1, by omega, _, rfl, by omega, ?_⟩
    refine ⟨x, c, rfl, hx1, by omega, fun H2 s2 => ?_⟩
    refine ⟨rfl, _, rfl, ?_⟩
    rw [if_neg (by simp)]
    have hx2 := hx1.same s2
    refine ⟨c, x, dx, _, rfl, s2 _ _ e1, x, c, rfl, hx2, rfl, by omega, hf, by omega, _, rfl, ?_⟩
    refine ⟨x, c, rfl, hx2, by omega, hf, by omega, fun H3 s3 => ?_⟩
    refine ⟨rfl, _, rfl, ?_⟩
    rw [if_pos (by simp)]
    refine ⟨x, c, rfl, hx2.same s3, by omega, hf, hs, fun y H4 s4 hy => ?_⟩
    obtain ⟨dy, p', l', us', sh', g1, _⟩ := hy.shp
    have hx4 := (hx2.same s3).same s4
    refine ⟨c, x, dx, _, .ins y _, rfl, s4 _ _ (s3 _ _ (s2 _ _ e1)), Is.ins g1 (own_c T.toTxt c), T.cn.notFirst (cls_six c) (cls_six c), x, .ref y, c, rfl, hx4, .inl ⟨y, c, rfl, hy, by omega, _, rfl, ?_⟩⟩
    rw [decide_eq_true rfl]
    exact q H4 (((hp1.same s2).same s3).same s4) fun b o n h => s4 b o (s3 b o (s2 b o (x1 b o n h)))

/-! == and != of nested lists and tuples that are equal, with an own == inside -/
section
open AutoSeq1 (wpAny_loadPart')
open MeetsSeq MeetsSeq2 MeetsSeq3 SeqRoads2 PySem.SeqAt
section
variable {prog : Program} {w : World} {A : Around} {R : Result → Shared → Prop}
theorem ne_loopB (l b : Addr) (N : Nat) (I : Nat → Shared → Prop) (hl : GQ.ListI prog w A (fun e s' => R (.error e) s') l b N I)
    (fin : ∀ s, I N s → R (.ok (.ret (.bool false))) s) (k : Nat) :
    ∀ i : Nat, N - i = k → i ≤ N → ∀ s, I i s →
      wpAny (model prog w) A.in1 (Builtin.«list.__eq__.loop» ⟨[.ref l, .ref b, rawInt i, rawInt 3], []⟩) (GQ.FinOf prog w A R) (fun e s' => R (.error e) s') s := by
  induction k with
  | zero =>
    intro i hk hi s h
    obtain ⟨items, items2, n, n2, hl1, hb1, hs1, hs2, _⟩ := hl _ _ h
    have hi' : i = N := by omega
    have hR : R (.ok (.ret (.bool false))) s := fin s (hi' ▸ h)
    obtain ⟨hp, g, d, tk, os⟩ := s
    wp_walk using wpAny_loadPart' hl1, wpAny_loadPart' hb1
    have hi1 : items[((i : Nat) : Int).toNat]? = none := by simp; omega
    have hi2 : items2[((i : Nat) : Int).toNat]? = none := by simp; omega
    rw [hi1, hi2]
    wp_walk using wpAny_loadPart' hl1, wpAny_loadPart' hb1
    show R (.ok (.ret (.bool (items.size != items2.size)))) _
    rw [hs1, hs2]
    simpa using hR
  | succ k ih =>
    intro i hk hi s h
    obtain ⟨items, items2, n, n2, hl1, hb1, hs1, hs2, turn⟩ := hl _ _ h
    have hlt : i < items.size := by omega
    have hlt2 : i < items2.size := by omega
    have ht := turn hlt hlt2
    obtain ⟨hp, g, d, tk, os⟩ := s
    wp_walk using wpAny_loadPart' hl1, wpAny_loadPart' hb1
    have hi1 : items[((i : Nat) : Int).toNat]? = some items[i] := by simp [hlt]
    have hi2 : items2[((i : Nat) : Int).toNat]? = some items2[i] := by simp [hlt2]
    have hc : ((i : Int) + 1) = ((i + 1 : Nat) : Int) := by omega
    rw [hi1, hi2]
    refine wpAny_bind (wpAny_mono ht (fun r s2 h2 => ?_) fun _ _ x => x)
    obtain ⟨hr, h2⟩ := h2
    subst hr
    have hrec := ih (i + 1) (by omega) (by omega) s2 h2
    obtain ⟨hp2, g2, d2, tk2, os2⟩ := s2
    wp_walk
    rw [hc]
    exact ⟨plainId_quiet plain_eq_loop _, codeAny_builtin entry_eq_loop (by
      rw [Around.under_plainId plain_eq_loop _]
      exact hrec)⟩
theorem list_neB (l b : Addr) (N : Nat) (I : Nat → Shared → Prop) (hl : GQ.ListI prog w A (fun e s' => R (.error e) s') l b N I)
    (fin : ∀ s, I N s → R (.ok (.ret (.bool false))) s) {s : Shared} (h : I 0 s) :
    wpAny (model prog w) A.in1 (Builtin.«list.__ne__» ⟨[.ref l, .ref b], []⟩) (GQ.FinOf prog w A R) (fun e s' => R (.error e) s') s := by
  obtain ⟨items, items2, n, n2, hl1, hb1, hs1, hs2, _⟩ := hl _ _ h
  have hrec := ne_loopB (A := A) (R := R) l b N I hl fin _ 0 rfl (Nat.zero_le _) s h
  obtain ⟨hp, g, d, tk, os⟩ := s
  have f3 := AutoSeq1.sub_list_list
  have hne : ¬ (items.size != items2.size) = true := by simp [hs1, hs2]
  wp_walk using wpAny_loadPart' hl1, wpAny_loadPart' hb1
  exact ⟨plainId_quiet plain_eq_loop _, codeAny_builtin entry_eq_loop (by
    rw [Around.under_plainId plain_eq_loop _]
    exact hrec)⟩
end
theorem rn_listB {prog : Program} {w : World} {A : Around} {E : Value → Shared → Prop} {s : Shared} {l b : Addr} {N : Nat} {Q : Value → Shared → Prop} (hu : A.units < cLine) (I : Nat → Shared → Prop) (hl : GQ.ListI prog w A E l b N I)
    (fin : ∀ s, I N s → Q (.bool false) s) (h : I 0 s) : wpAny (model prog w) A (richCompare .NotEq (.ref l) (.ref b)) Q E s := by
  obtain ⟨items, items2, n, n2, hl1, hb1, _, _, _⟩ := hl _ _ h
  refine wpAny_richCompare_same_room (op := .NotEq) ⟨_, hl1, rfl⟩ ⟨_, hb1, rfl⟩ F.slot_list_ne (GQ.call_here F.slot_list_ne ⟨_, hl1, rfl⟩ F.entry_list_ne (F.args_list_ne_2 _ _) ?_) hu
  exact list_neB (R := wants (fun v s' => v ≠ .notImplemented ∧ Q v s') E) l b N I hl (fun s' q => ⟨(fun x => nomatch x), fin s' q⟩) h
end
section
abbrev EqvB := V → V → Hp → Prop
structure SubB (X : Cx) (n : Nat) (A : Around) : Prop where
  room : Rm n A
  fr : A.frames = X.A.frames
theorem SubB.in1 {X : Cx} {n : Nat} {A : Around} (s : SubB X (n + 1) A) : SubB X n A.in1 := ⟨s.room.in1, s.fr⟩
theorem SubB.mono {X : Cx} {n m : Nat} {A : Around} (s : SubB X n A) (h : m ≤ n) : SubB X m A := ⟨s.room.mono h, s.fr⟩
def MonB (D : EqvB) : Prop := ∀ x y H H', Same H H' → D x y H → D x y H'
def EqB (X : Cx) (n : Nat) (D : EqvB) : Prop :=
  ∀ (A : Around) (pins : List (Addr × Obj)) (s : Shared) (σ : L2.St) (H : Hp) (x y : V) (u v : Value), SubB X n A → L2.Inv X pins σ H s → RelV x u → RelV y v → D x y H →
    wpAny (model X.prog X.w) A (eqBool u v) (fun r s' => r = true ∧ ∃ H', L2.Inv X pins σ H' s' ∧ Same H H') X.xe s
def RcB (X : Cx) (n : Nat) (D : EqvB) : Prop :=
  ∀ (A : Around) (pins : List (Addr × Obj)) (s : Shared) (σ : L2.St) (H : Hp) (x y : V) (u v : Value), SubB X n A → L2.Inv X pins σ H s → RelV x u → RelV y v → D x y H →
    wpAny (model X.prog X.w) A (richCompare .Eq u v) (fun r s' => r = .bool true ∧ ∃ H', L2.Inv X pins σ H' s' ∧ Same H H') X.xe s
def RnB (X : Cx) (n : Nat) (D : EqvB) : Prop :=
  ∀ (A : Around) (pins : List (Addr × Obj)) (s : Shared) (σ : L2.St) (H : Hp) (x y : V) (u v : Value), SubB X n A → L2.Inv X pins σ H s → RelV x u → RelV y v → D x y H →
    wpAny (model X.prog X.w) A (richCompare .NotEq u v) (fun r s' => r = .bool false ∧ ∃ H', L2.Inv X pins σ H' s' ∧ Same H H') X.xe s
variable {X : Cx} {n m : Nat} {D D' : EqvB}
theorem EqB.mono (h : EqB X n D) (hn : n ≤ m) : EqB X m D := fun A pins s σ H x y u v sb => h A pins s σ H x y u v (sb.mono hn)
theorem EqB.or (h : EqB X n D) (h' : EqB X n D') : EqB X n (fun x y H => D x y H ∨ D' x y H) := fun A pins s σ H x y u v sb I rx ry d => by
  rcases d with d | d
  · exact h A pins s σ H x y u v sb I rx ry d
  · exact h' A pins s σ H x y u v sb I rx ry d
theorem MonB.or (h : MonB D) (h' : MonB D') : MonB (fun x y H => D x y H ∨ D' x y H) := fun x y H H' e d => d.elim (fun d => .inl (h x y H H' e d)) fun d => .inr (h' x y H H' e d)
def DFl : EqvB := fun x y _ => x = y ∧ flatV x = true ∧ eqV x x = true
theorem mon_fl : MonB DFl := fun _ _ _ _ _ d => d
theorem eqB_fl : EqB X 0 DFl := by
  intro A pins s σ H x y u v sb I rx ry d
  obtain ⟨rfl, fx, e⟩ := d
  have q := eqAt_V (A := A) (s := s) rx ry fx fx
  rw [e] at q
  exact q X.prog X.w X.xe _ ⟨rfl, H, I, Same.refl _⟩
def DSm : EqvB := fun x y _ => x = y ∧ ∃ a, x = .ref a
theorem mon_sm : MonB DSm := fun _ _ _ _ _ d => d
theorem eqB_sm : EqB X 0 DSm := by
  intro A pins s σ H x y u v sb I rx ry d
  obtain ⟨rfl, a, rfl⟩ := d
  cases rx
  cases ry
  exact SeqAt.EqAt.same (A := A) (s := s) (.ref a) X.prog X.w X.xe _ ⟨rfl, H, I, Same.refl _⟩
def PrB (D : EqvB) (xs ys : List V) (H : Hp) : Prop := xs.length = ys.length ∧ ∀ (i : Nat) x y, xs[i]? = some x → ys[i]? = some y → D x y H
theorem PrB.nil {H : Hp} : PrB D [] [] H := ⟨rfl, fun i x y h _ => by simp at h⟩
theorem PrB.cons {x y : V} {xs ys : List V} {H : Hp} (h : D x y H) (p : PrB D xs ys H) : PrB D (x :: xs) (y :: ys) H := by
  refine ⟨by rw [List.length_cons, List.length_cons, p.1], fun i a b h1 h2 => ?_⟩
  cases i with
  | zero =>
    simp at h1 h2
    subst h1; subst h2
    exact h
  | succ i =>
    simp at h1 h2
    exact p.2 i a b h1 h2
def LoopB (X : Cx) (pins : List (Addr × Obj)) (σ : L2.St) (H : Hp) (s' : Shared) : Prop := ∃ H', L2.Inv X pins σ H' s' ∧ Same H H'
theorem turnB (hD : MonB D) (h : EqB X n D) {A : Around} (sb : SubB X (n + 1) A) {pins : List (Addr × Obj)} {σ : L2.St} {H : Hp} {xs ys : List V} {its its2 : List Value} (p : PrB D xs ys H) (r : Vals xs its) (r2 : Vals ys its2)
    (i : Nat) (h1 : i < its.toArray.size) (h2 : i < its2.toArray.size) (s' : Shared) (l : LoopB X pins σ H s') :
    wpAny (model X.prog X.w) A.in1 (eqBool its.toArray[i] its2.toArray[i]) (fun r s2 => r = true ∧ LoopB X pins σ H s2) X.xe s' := by
  obtain ⟨H1, I1, e1⟩ := l
  have g1 : its[i]? = some its.toArray[i] := by
    have h1' : i < its.length := by simpa using h1
    rw [List.getElem?_eq_getElem h1'] <;> simp
  have g2 : its2[i]? = some its2.toArray[i] := by
    have h2' : i < its2.length := by simpa using h2
    rw [List.getElem?_eq_getElem h2'] <;> simp
  have k1 : i < xs.length := by rw [r.length]; simpa using h1
  have k2 : i < ys.length := by rw [r2.length]; simpa using h2
  obtain ⟨u, hu, ru⟩ := r.get (List.getElem?_eq_getElem k1)
  obtain ⟨v, hv, rv⟩ := r2.get (List.getElem?_eq_getElem k2)
  rw [g1] at hu
  rw [g2] at hv
  rw [Option.some.inj hu, Option.some.inj hv]
  refine wpAny_mono (h A.in1 pins s' σ H1 _ _ u v sb.in1 I1 ru rv (hD _ _ _ _ e1 (p.2 i _ _ (List.getElem?_eq_getElem k1) (List.getElem?_eq_getElem k2)))) (fun r s2 q => ?_) fun _ _ x => x
  obtain ⟨hr, H2, I2, e2⟩ := q
  exact ⟨hr, H2, I2, e1.trans e2⟩
def DLs (D : EqvB) : EqvB := fun x y H => ∃ a b xs ys, x = .ref a ∧ y = .ref b ∧ H a = some (.lst xs) ∧ H b = some (.lst ys) ∧ PrB D xs ys H
def DTp (K : Frag) (D : EqvB) : EqvB := fun x y H => ∃ a b xs ys, x = .ref a ∧ y = .ref b ∧ H a = some (.tup xs) ∧ H b = some (.tup ys) ∧ PrB D xs ys H
theorem PrB.mon (hD : MonB D) {xs ys : List V} {H H' : Hp} (e : Same H H') (p : PrB D xs ys H) : PrB D xs ys H' := ⟨p.1, fun i x y h1 h2 => hD x y H H' e (p.2 i x y h1 h2)⟩
theorem mon_tp {K : Frag} (hD : MonB D) : MonB (DTp K D) := fun x y H H' e d => by
  obtain ⟨a, b, xs, ys, hx, hy, h1, h2, p⟩ := d
  exact ⟨a, b, xs, ys, hx, hy, e _ _ h1, e _ _ h2, p.mon hD e⟩
theorem listI (hD : MonB D) (h : EqB X n D) {A : Around} (sb : SubB X (n + 1) A) {pins : List (Addr × Obj)} {σ : L2.St} {H : Hp} {a b : Addr} {xs ys : List V} (ha : H a = some (.lst xs)) (hb : H b = some (.lst ys)) (p : PrB D xs ys H) : GQ.ListI X.prog X.w A X.xe a b xs.length (fun _ s' => LoopB X pins σ H s') := by
  intro i s' q
  obtain ⟨H1, I1, e1⟩ := id q
  obtain ⟨z, its, k, r, e⟩ := I1.hok a _ (e1 _ _ ha)
  obtain ⟨z2, its2, k2, r2, e2⟩ := I1.hok b _ (e1 _ _ hb)
  exact ⟨its.toArray, its2.toArray, k, k2, e, e2, by rw [List.size_toArray, ← r.length], by rw [List.size_toArray, ← r2.length, ← p.1], fun h1 h2 => turnB hD h sb p r r2 i h1 h2 s' q⟩
theorem rnB_list (hD : MonB D) (h : EqB X n D) : RnB X (n + 1) (DLs D) := by
  intro A pins s σ H x y u v sb I rx ry d
  obtain ⟨a, b, xs, ys, rfl, rfl, ha, hb, p⟩ := d
  cases rx
  cases ry
  exact rn_listB (N := xs.length) (hu0 sb.room) (fun _ s' => LoopB X pins σ H s') (listI hD h sb ha hb p) (fun s' q => ⟨rfl, q⟩) ⟨H, I, Same.refl _⟩
theorem rcB_tup (hD : MonB D) (h : EqB X n D) : RcB X (n + 1) (DTp X.K D) := by
  intro A pins s σ H x y u v sb I rx ry d
  obtain ⟨a, b, xs, ys, rfl, rfl, ha, hb, p⟩ := d
  cases rx
  cases ry
  obtain ⟨its, r, e, z⟩ := I.tuple (SqT.of ha)
  obtain ⟨its2, r2, e2, z2⟩ := I.tuple (SqT.of hb)
  have hsz : its.toArray.size = its2.toArray.size := by rw [List.size_toArray, List.size_toArray, ← r.length, ← r2.length]; exact p.1
  exact GQ.rc_tupG hsz (hu0 sb.room) (fun _ s' => LoopB X pins σ H s') e e2 (fun i h1 h2 s' q => turnB hD h sb p r r2 i h1 h2 s' q) (fun s' q => ⟨rfl, q⟩) ⟨H, I, Same.refl _⟩
theorem RcB.eqB (h : RcB X n D) (hr : ∀ x y H, D x y H → ∃ a b, x = .ref a ∧ y = .ref b) : EqB X n D := by
  intro A pins s σ H x y u v sb I rx ry d
  obtain ⟨a, b, rfl, rfl⟩ := hr _ _ _ d
  cases rx
  cases ry
  by_cases hab : a = b
  · subst hab
    exact SeqAt.EqAt.same (A := A) (s := s) (.ref a) X.prog X.w X.xe _ ⟨rfl, H, I, Same.refl _⟩
  · refine GQ.eqBool_refG hab (wpAny_mono (h A pins s σ H (.ref a) (.ref b) _ _ sb I rfl rfl d) (fun r s' q => ?_) fun _ _ x => x)
    obtain ⟨hr', q⟩ := q
    exact ⟨true, hr', rfl, q⟩
theorem eqB_tup (hD : MonB D) (h : EqB X n D) : EqB X (n + 1) (DTp X.K D) := (rcB_tup hD h).eqB fun _ _ _ d => let ⟨a, b, _, _, hx, hy, _⟩ := d; ⟨a, b, hx, hy⟩
def rNeB (D : EqvB) : R2 := fun x y H Q => D x y H ∧ ∀ H', Same H H' → Q (.bl false) H'
theorem op_neB {j : Nat} (h : RnB X n D) (hr : Rm j X.A) (hk : n ≤ j := by decide) : OpR X (compareOp .NotEq) (rNeB D) := by
  intro pins s σ H x y v u Q I rx ry hq
  obtain ⟨d, q⟩ := hq
  show wpAny (model X.prog X.w) X.A (richCompare .NotEq v u) (EP X pins σ Q) X.xe s
  refine wpAny_mono (h X.A pins s σ H x y v u ⟨hr.mono hk, rfl⟩ I rx ry d) (fun r s' z => ?_) fun _ _ x => x
  obtain ⟨hr', H', I', e⟩ := z
  subst hr'
  exact ⟨.bl false, H', I', rfl, q H' e⟩
end

/-! != of two tuples that are equal, with an own == inside -/
section
open AutoSeq1 (wpAny_loadPart')
open MeetsSeq MeetsSeq2 MeetsSeq3 SeqRoads2 PySem.SeqAt
section
variable {prog : Program} {w : World} {A : Around} {R : Result → Shared → Prop}
end
end
theorem InsAt.same {K : Frag} {H H' : Hp} {a : Addr} {C : Str} {sh : List V} {rs : List (List V)} (h : InsAt K H a C sh rs) (s : Same H H') : InsAt K H' a C sh rs := h.keep fun c o e _ _ => s c o e
structure T74 (K : Frag) (H0 : Hp) (pl x y : Addr) (c d : Cnd) (G : Hp) : Prop where
  np : H0 pl = none
  pool : PoolAt G pl
  ext : Same H0 G
  h1 : CondAt K G x c
  h2 : CondAt K G y d
  d1 : c.deep ≤ 3
  f1 : c.fine
  l1 : c.simple.length ≤ 8
  d2 : d.deep ≤ 3
  f2 : d.fine
  l2 : d.simple.length ≤ 8
section
variable {K : Frag} {H0 G G' : Hp} {pl x y : Addr} {c d : Cnd}
theorem T74.same (t : T74 K H0 pl x y c d G) (s : Same G G') : T74 K H0 pl x y c d G' := ⟨t.np, t.pool.same s, t.ext.trans s, t.h1.same s, t.h2.same s, t.d1, t.f1, t.l1, t.d2, t.f2, t.l2⟩
theorem T74.ex (t : T74 K H0 pl x y c d G) (e : Ex pl G G') (p : PoolAt G' pl) : T74 K H0 pl x y c d G' := ⟨t.np, p, fun b o h => e b o (fun z => by
  have := t.np
  rw [z, this] at h
  cases h) (t.ext b o h), t.h1.pool t.pool e, t.h2.pool t.pool e, t.d1, t.f1, t.l1, t.d2, t.f2, t.l2⟩
structure U74 (K : Frag) (G : Hp) (x y : Addr) (c d : Cnd) (u1 u2 u3 : Addr) : Prop where
  b : InsAt K G u1 "Both" [.str "and", .ref x, .ref y] (c.simple ++ d.simple)
  e : InsAt K G u2 "Either" [.str "or", .ref x, .ref y] (c.simple ++ d.simple)
  n : InsAt K G u3 "Opposite" [.str "not", .ref x] c.simple
theorem repr_c {a : Addr} {H : Hp} {Q : VK} (hc : CondAt K H a c) (hd : c.deep ≤ 3) (hf : c.fine) (q : Q (.str c.text) H) : ∃ i : Cnd, rRepr (ga K i.cls) (SpR K i.cls 8) E0 [.ref a] H Q := by
  have tl := text_len hf (by omega)
  obtain ⟨dx, p, l, us, sh, e1, _⟩ := hc.shp
  exact ⟨c, a, dx, _, rfl, e1, a, c, rfl, hc, rfl, by omega, hf, (by rw [sizeLine_eq]; omega), _, rfl, q⟩
end
theorem pool_neK {G : Hp} {pl k : Addr} {z : V} {l : List V} (hp : PoolAt G pl) (h : G k = some (.lst (z :: l))) (hz : ∀ i, z ≠ .int i) : k ≠ pl := fun e => by
  obtain ⟨i, j, q⟩ := hp
  rw [e, q] at h
  cases h
  exact hz i rfl
section
variable {K : Frag} {mg : Str → Option Value} (T : Txt K mg) {H : Hp} {a b : Addr} {c d : Cnd} {Q : VK}
include T
theorem eq_c (hc : CondAt K H a c) (hd : CondAt K H b d) (hl : c.deep < 8) (q : Q (.bl (decide (c = d))) H) : ∃ i : Cnd, rEqO K (ga K i.cls) (SpEq K 8) E0 (.ref a) (.ref b) H Q := by
  obtain ⟨dx, p, l, us, sh, e1, _⟩ := hc.shp
  obtain ⟨dy, p', l', us', sh', g1, _⟩ := hd.shp
  exact ⟨c, a, dx, _, .ins b _, rfl, e1, Is.ins g1 (own_c T d), T.cn.notFirst (cls_six c) (cls_six d), a, .ref b, c, rfl, hc, .inl ⟨b, d, rfl, hd, hl, _, rfl, q⟩⟩
theorem ne_c (hc : CondAt K H a c) (hd : CondAt K H b d) (hl : c.deep < 8) (q : Q (.bl (!decide (c = d))) H) : ∃ i : Cnd, rNeO K (ga K i.cls) (SpEq K 8) E0 (.ref a) (.ref b) H Q := by
  obtain ⟨dx, p, l, us, sh, e1, _⟩ := hc.shp
  obtain ⟨dy, p', l', us', sh', g1, _⟩ := hd.shp
  exact ⟨c, a, dx, _, .ins b _, rfl, e1, Is.ins g1 (own_c T d), T.cn.notFirst (cls_six c) (cls_six d), a, .ref b, c, rfl, hc, .inl ⟨b, d, rfl, hd, hl, _, rfl, q⟩⟩
theorem eq_no {z : V} {k : Kn} (hc : CondAt K H a c) (hk : Is K H z k) (n : ∀ a D, k ≠ .ins a D) (q : Q (.bl false) H) : ∃ i : Cnd, rEqO K (ga K i.cls) (SpEq K 8) E0 (.ref a) z H Q := by
  obtain ⟨dx, p, l, us, sh, e1, _⟩ := hc.shp
  exact ⟨c, a, dx, _, k, rfl, e1, hk, first_of (mt_first T c) hk (fun a D e => absurd e (n a D)), a, z, c, rfl, hc, .inr ⟨by decide, k, hk, n, _, rfl, q⟩⟩
theorem ne_no {z : V} {k : Kn} (hc : CondAt K H a c) (hk : Is K H z k) (n : ∀ a D, k ≠ .ins a D) (q : Q (.bl true) H) : ∃ i : Cnd, rNeO K (ga K i.cls) (SpEq K 8) E0 (.ref a) z H Q := by
  obtain ⟨dx, p, l, us, sh, e1, _⟩ := hc.shp
  exact ⟨c, a, dx, _, k, rfl, e1, hk, first_of (mt_first T c) hk (fun a D e => absurd e (n a D)), a, z, c, rfl, hc, .inr ⟨by decide, k, hk, n, _, rfl, q⟩⟩
theorem parts_i {σ : L2.St} {u : Addr} {i : Nat} {C : Str} {sh : List V} {rs : List (List V)} (c : Cnd) (hC : C = c.cls) (hσ : σ[i]? = some (some (.ref u))) (hu : InsAt K H u C sh rs) (q : ∀ p, H p = some (.tup sh) → Q (.ref p) H) : ∃ j : Cnd, tProp (ga K j.cls) (sp_Condition_parts K) [] E0 (tVar i) σ H Q := by
  subst hC
  obtain ⟨dx, p, l, us, e1, e2, _⟩ := hu
  have k := clsOk T c
  exact ⟨c, _, hσ, u, dx, _, rfl, e1, u, _, dx, _, _, rfl, e1, k.c, k.n1, q p e2⟩
end
theorem tLcL_via {K : Frag} {tl te : TE} {g : TG} {tt : TT} {vs : List Nat} {σ : L2.St} {H : Hp} {Q : VK} (h : tl σ H fun v H1 => tLc (iList K fun _ G Q' => Q' v G) g tt te vs σ H1 Q) : tLc (iList K tl) g tt te vs σ H Q := h
theorem lc_none {K : Frag} {tl te : TE} {tt : TT} {σ : L2.St} {i : Nat} {H : Hp} {l : Addr} {xs : List V} {Q : VK} (hL : H l = some (.lst xs)) (hl : ∀ Q' : VK, Q' (.ref l) H → tl σ H Q') (hw : ∀ x, wipe ((wipe σ [i]).set i (some x)) [i] = wipe σ [i])
    (ht : ∀ x G (Q' : Bool → Hp → Prop), x ∈ xs → Same H G → (∀ G', Same G G' → Q' false G') → tt ((wipe σ [i]).set i (some x)) G Q')
    (q : ∀ G D, Same H G → G D = some (.lst []) → Q (.ref D) G) : tLc (iList K tl) (gName i) tt te [i] σ H Q := by
  refine hl _ ⟨l, rfl, ⟨_, SqL.of hL⟩, fun D hD => ?_⟩
  refine lc_it (walk_list (xs := xs)) (fun j H2 => H2 D = some (.lst []) ∧ Same H H2) ⟨upd_same, Same.upd (Same.refl _) hD⟩ (fun j H2 _ ⟨_, s⟩ => SqL.of (s _ _ hL)) ?_ ?_
  · rintro j y H2 H3 hj ⟨hb, s2⟩ ⟨rfl, hy⟩
    refine ⟨hw _, ht _ _ _ (List.mem_of_getElem? hy) s2 fun G' s3 => ?_⟩
    rw [if_neg (by simp)]
    exact ⟨s3 _ _ hb, s2.trans s3⟩
  · rintro H2 ⟨hb, s2⟩
    exact q H2 D s2 hb
def rEqC (K : Frag) : R2 := fun x y H Q => ∃ c : Cnd, rEqO K (ga K c.cls) (SpEq K 8) E0 x y H Q
def rNeC (K : Frag) : R2 := fun x y H Q => ∃ c : Cnd, rNeO K (ga K c.cls) (SpEq K 8) E0 x y H Q
theorem cmp_eqC {X : Cx} {j : Nat} (T : TxtP X.prog X.K X.mg) (hr : Rm j X.A) (hx : Passes (L2.CX X.prog X.w) X E0) (hk : 37 ≤ j := by decide) : OpR X (compareOp .Eq) (rEqC X.K) :=
  op_exI fun c => op_eqO (mt_eq T.toTxt c) (eq_all T 8) hr hx (by omega)
theorem cmp_neC {X : Cx} {j : Nat} (T : TxtP X.prog X.K X.mg) (hr : Rm j X.A) (hx : Passes (L2.CX X.prog X.w) X E0) (hk : 37 ≤ j := by decide) : OpR X (compareOp .NotEq) (rNeC X.K) :=
  op_exI fun c => op_neO (mt_eq T.toTxt c) (mt_ne T.toTxt c) (eq_all T 8) hr hx (by omega)

def spLaw (K : Frag) : Sp := fun vs H Q _ => ∃ (a : Addr) (ns : List Int), vs = [.ref a] ∧ SqL K H a (ns.map V.int) ∧ ns.length ≤ 63 ∧ (∀ z ∈ ns, Builtin.Int.intBits z ≤ 1048576) ∧ (∀ p ∈ tf.map (cTA K), H p.2 = some (.tbl #[])) ∧ ∀ H', Q (.bl true) H'
abbrev sp_law := spLaw
theorem sc_law : FnScope ["_law_script", "_law_k", "_law_pool", "_law_kept", "_law_condition_here", "_law_one", "_law_other", "_law_both", "_law_either", "_law_none", "_law_odd"] ["_law_script"] (defScope s_law) := ⟨rfl, rfl, rfl, by decide +kernel, rfl, by decide +kernel, by decide +kernel⟩
theorem ok_law {P : Program} {w : World} {K : Frag} {mg : Str → Option Value} (T : TxtP P K mg) : LawOkT P w K mg (tf.map (cTA K)) 40 (glA "law" K) (sp_law K) := by
  refine okLawT (N := ["_law_script", "_law_k", "_law_pool", "_law_kept", "_law_condition_here", "_law_one", "_law_other", "_law_both", "_law_either", "_law_none", "_law_odd"]) (k := 39) (d := g_law) T.d_law rfl sc_law (fun _ _ _ _ _ _ us hl => match us, hl with | [_], _ => rfl) (fun base tb A outer s H vs Q E hr h => ?_)
  · have hu := hr.hu
    obtain ⟨a, ns, rfl, hS, hlen, hbits, htab, q⟩ := h
    refine ⟨_, PSs.nox ((pss_cons (ps_for PassesOwn.never rfl (pi_range1 (by rfl) T.b_range (pa_cons (pe_callB (call_max2 rfl) (by rfl) T.b_max (by decide +kernel) (pa_cons pe_int (pa_cons (pe_callB (call_min2 rfl) (by rfl) T.b_min (by decide +kernel) (pa_cons (pe_callB call_len_seq (by rfl) T.b_len (by decide +kernel) (pa_cons (pv 0) pa_nil)) (pa_cons pe_int pa_nil))) pa_nil))) pa_nil)) (pg_name (i := 1) sc_law.nd rfl (Or.inl rfl))
        (pss_cons (ps_set (i := 2) sc_law.nd rfl (Or.inl rfl) (pe_cF (ok__law_hand (K := K) T) hr T.m__law_hand passL (pa_cons (pv 0) (pa_cons (pv 1) pa_nil))))
        (pss_cons (ps_asg (pe_tup (pa_cons (pe_cF (cond_all (K := K) T 4) hr T.m__law_condition passL (pa_cons (pv 2) (pa_cons pe_int pa_nil))) (pa_cons (pe_cF (cond_all (K := K) T 4) hr T.m__law_condition passL (pa_cons (pv 2) (pa_cons pe_int pa_nil))) pa_nil))) (pg_tup (n := 2) (by rfl) (pgs_cons (pg_name (i := 5) sc_law.nd rfl (Or.inr rfl)) (pgs_cons (pg_name (i := 6) sc_law.nd rfl (Or.inl rfl)) pgs_nil))))
        (pss_cons (ps_set (i := 3) sc_law.nd rfl (Or.inl rfl) (pe_lst (pa_cons (pe_callB (cr_exI fun c => call_reprO (mt_repr T.toTxt c) (repr_all T 8 c) hr passL) (by rfl) T.b_repr (by decide +kernel) (pa_cons (pv 5) pa_nil)) (pa_cons (pe_callB (cr_exI fun c => call_reprO (mt_repr T.toTxt c) (repr_all T 8 c) hr passL) (by rfl) T.b_repr (by decide +kernel) (pa_cons (pv 6) pa_nil)) pa_nil))))
        (pss_cons (ps_for PassesOwn.never rfl (pi_list (pe_lst (pa_cons (pv 5) (pa_cons (pv 6) (pa_cons (pe_op (op_binD (cs := csK K) (bin_and (K := K) T (by decide)) hr passL) (pv 5) (pv 6)) (pa_cons (pe_op (op_binD (cs := csK K) (bin_or (K := K) T (by decide)) hr passL) (pv 5) (pv 6)) (pa_cons (pe_un (un_invD (cs := csK K) (un_inv (K := K) T (by decide)) hr passL) (pv 5)) pa_nil))))))) (pg_name (i := 4) sc_law.nd rfl (Or.inl rfl))
          (pss_one (ps_if (pt_not (pt_val (pe_cF (ok__law_right (K := K) T) hr T.m__law_right passL (pa_cons (pv 2) (pa_cons (pv 4) pa_nil)))))
            (pss_one (ps_ret pe_bl))
            pss_nil)))
        (pss_cons (ps_par3 (i := 7) (j := 8) (l := 9) (by rfl) sc_law.nd rfl rfl rfl (by decide) (by decide) (by decide) rfl rfl rfl (pa_cons (pe_op (op_binD (cs := csK K) (bin_and (K := K) T (by decide)) hr passL) (pv 5) (pv 6)) (pa_cons (pe_op (op_binD (cs := csK K) (bin_or (K := K) T (by decide)) hr passL) (pv 5) (pv 6)) (pa_cons (pe_un (un_invD (cs := csK K) (un_inv (K := K) T (by decide)) hr passL) (pv 5)) pa_nil))) (by rfl))
        (pss_cons (ps_if (pt_cmpR (op_neB (n := 2) (rnB_list (mon_tp (mon_fl.or mon_sm)) (eqB_tup (mon_fl.or mon_sm) ((eqB_fl.mono (Nat.zero_le _)).or (eqB_sm.mono (Nat.zero_le _))))) hr) (pe_lst (pa_cons (pe_exI fun c => pe_prF (pv 7) (clsOk T.toTxt c).c (pr_parts T.toTxt c) (ok_Condition_parts (K := K) T) hr passL) (pa_cons (pe_exI fun c => pe_prF (pv 8) (clsOk T.toTxt c).c (pr_parts T.toTxt c) (ok_Condition_parts (K := K) T) hr passL) (pa_cons (pe_exI fun c => pe_prF (pv 9) (clsOk T.toTxt c).c (pr_parts T.toTxt c) (ok_Condition_parts (K := K) T) hr passL) pa_nil)))) (pe_lst (pa_cons (pe_tup (pa_cons pe_str (pa_cons (pv 5) (pa_cons (pv 6) pa_nil)))) (pa_cons (pe_tup (pa_cons pe_str (pa_cons (pv 5) (pa_cons (pv 6) pa_nil)))) (pa_cons (pe_tup (pa_cons pe_str (pa_cons (pv 5) pa_nil))) pa_nil)))) (nomark _))
          (pss_one (ps_ret pe_bl))
          pss_nil)
        (pss_cons (ps_if (PW.pt (pw_or (pt_cmpR op_ne (pe_cmpR (op_exI fun c => op_eqO (mt_eq T.toTxt c) (eq_all T 8) hr passL) (pv 5) (pv 6) (nomark _)) (pe_cmpR op_eq (pe_ix ix_list (pv 3) pe_int (fun _ _ => rfl)) (pe_ix ix_list (pv 3) pe_int (fun _ _ => rfl)) (nomark _)) (nomark _)) (pw_or1 (pt_cmpR op_ne (pe_cmpR (op_exI fun c => op_neO (mt_eq T.toTxt c) (mt_ne T.toTxt c) (eq_all T 8) hr passL) (pv 5) (pv 6) (nomark _)) (pe_cmpR op_ne (pe_ix ix_list (pv 3) pe_int (fun _ _ => rfl)) (pe_ix ix_list (pv 3) pe_int (fun _ _ => rfl)) (nomark _)) (nomark _)))))
          (pss_one (ps_ret pe_bl))
          pss_nil)
        (pss_cons (ps_if (pt_cmpR (op_neNil (hu64 hr)) (pe_lc (own := [("_law_odd", 10)]) (g := gName 10) rfl sc_law.nd (pi_list (pe_lst (pa_cons pe_non (pa_cons pe_int (pa_cons (pe_ix ix_list (pv 3) pe_int (fun _ _ => rfl)) (pa_cons (pe_exI fun c => pe_prF (pv 5) (clsOk T.toTxt c).c (pr_parts T.toTxt c) (ok_Condition_parts (K := K) T) hr passL) (pa_cons (pe_lst (pa_cons (pv 5) pa_nil)) pa_nil))))))) (blkOk_by (N := ["_law_script", "_law_k", "_law_pool", "_law_kept", "_law_condition_here", "_law_one", "_law_other", "_law_both", "_law_either", "_law_none", "_law_odd"]) (sc := defScope s_law) (by decide +kernel)) (fun _ _ _ _ _ => pg_name (i := 10) sc_law.nd rfl (Or.inl rfl)) (fun _ _ _ _ _ => (pts_one (PW.pt (pw_or (pt_cmpR (cmp_eqC (by exact T) (by exact hr) (by exact passL) : OpR _ _ (rEqC K)) (pv 5) (pv 10) (nomark _)) (pw_or1 (pt_not (pt_cmpR (cmp_neC (by exact T) (by exact hr) (by exact passL) : OpR _ _ (rNeC K)) (pv 5) (pv 10) (nomark _)))))))) (fun _ _ _ _ _ => (pv 10))) (pe_lst pa_nil) (nomark _))
          (pss_one (ps_ret pe_bl))
          pss_nil)
        (pss_one (ps_if (PW.pt (pw_or (pt_cmpR (op_neB (n := 1) (rnB_list mon_fl eqB_fl) hr) (pe_lst (pa_cons (pe_callB (cr_exI fun c => call_reprO (mt_repr T.toTxt c) (repr_all T 8 c) hr passL) (by rfl) T.b_repr (by decide +kernel) (pa_cons (pv 5) pa_nil)) (pa_cons (pe_callB (cr_exI fun c => call_reprO (mt_repr T.toTxt c) (repr_all T 8 c) hr passL) (by rfl) T.b_repr (by decide +kernel) (pa_cons (pv 6) pa_nil)) pa_nil))) (pv 3) (nomark _)) (pw_or (pt_cmpR (op_exI fun c => op_eqO (mt_eq T.toTxt c) (eq_all T 8) hr passL) (pe_un (un_invD (cs := csK K) (un_inv (K := K) T (by decide)) hr passL) (pe_un (un_invD (cs := csK K) (un_inv (K := K) T (by decide)) hr passL) (pv 5))) (pv 5) (nomark _)) (pw_or1 (pt_cmpR op_ne (pe_cmpR (op_exI fun c => op_eqO (mt_eq T.toTxt c) (eq_all T 8) hr passL) (pe_op (op_binD (cs := csK K) (bin_and (K := K) T (by decide)) hr passL) (pv 5) (pv 6)) (pe_op (op_binD (cs := csK K) (bin_and (K := K) T (by decide)) hr passL) (pv 6) (pv 5)) (nomark _)) (pe_cmpR (op_exI fun c => op_eqO (mt_eq T.toTxt c) (eq_all T 8) hr passL) (pv 5) (pv 6) (nomark _)) (nomark _))))))
          (pss_one (ps_ret pe_bl))
          pss_nil)))))))))))
      (pss_one (ps_ret (pe_and (pe_cmpR (op_eqD (hu64 hr)) (pe_exI fun c => pe_prF (pe_mkF T.k_Begins (ok_Begins_init (K := K) T) hr T.m_Begins passL (pa_cons pe_str pa_nil)) (clsOk T.toTxt c).c (pr_parts T.toTxt c) (ok_Condition_parts (K := K) T) hr passL) (pe_tup (pa_cons pe_str (pa_cons pe_str pa_nil))) (nomark _)) (pe_one (pe_cmpR (op_eqD (hu64 hr)) (pe_exI fun c => pe_prF (pe_mkF T.k_Length (ok_Length_init (K := K) T) hr T.m_Length passL (pa_cons pe_int (pa_cons pe_int pa_nil))) (clsOk T.toTxt c).c (pr_parts T.toTxt c) (ok_Condition_parts (K := K) T) hr passL) (pe_tup (pa_cons pe_str (pa_cons pe_int (pa_cons pe_int pa_nil)))) (nomark _)))))))), ?_⟩
    refine seq_gen (fun _ _ => True) (fun N hN => ?_) (fun σ' H' _ => ?_)
    · walk_at "nm"
      refine ⟨_, rfl, a, rfl, _, .inl hS, _, _, rfl, _, _, rfl, _, rfl, ?_, ?_, for_range (fun i σ H' => (∃ v1 v2 v3 v4 v5 v6 v7 v8 v9 v10, σ = [some (.ref a), v1, v2, v3, v4, v5, v6, v7, v8, v9, v10]) ∧ Same H H') ⟨⟨_, _, _, _, _, _, _, _, _, _, rfl⟩, Same.refl _⟩ ?_ ?_⟩
      · split <;> split <;> omega
      · split <;> split <;> omega
      · rintro i σ H2 hi ⟨⟨v1, v2, v3, v4, v5, v6, v7, v8, v9, v10, rfl⟩, e2⟩
        have hi16 : i < 16 := by
          rw [List.length_map] at hi
          split at hi <;> split at hi <;> omega
        dsimp only [gName]
        simp only [List.set_cons_succ, List.set_cons_zero]
        generalize hk : some (V.int (0 + (i : Int))) = vk
        refine seq_gen (fun σ' H' => ∃ pl, σ' = [some (.ref a), vk, some (.ref pl), v3, v4, v5, v6, v7, v8, v9, v10] ∧ H pl = none ∧ PoolAt H' pl ∧ Same H H') (fun N2 hN2 => ?_) ?_
        · subst hk
          walk_at "nm"
          refine ⟨a, ns, _, rfl, seqN hS (LamX.ExtN.of e2), by omega, ⟨by omega, by omega⟩, fun H3 pl s3 npl hp3 => hN2 _ _ ⟨pl, rfl, e2.free npl, hp3, e2.trans s3⟩⟩
        rintro σ' H3 ⟨pl, rfl, npl, hp3, s3⟩
        refine seq_gen (fun σ' H' => ∃ x y c d, σ' = [some (.ref a), vk, some (.ref pl), v3, v4, some (.ref x), some (.ref y), v7, v8, v9, v10] ∧ T74 K H pl x y c d H') (fun N2 hN2 => ?_) ?_
        · walk_at "nm"
          refine ⟨pl, 3, rfl, by decide, by decide, hp3, fun x c H4 p4 x4 hc hd hf hs => ?_⟩
          refine ⟨pl, 3, rfl, by decide, by decide, p4, fun y d H5 p5 x5 hc' hd' hf' hs' => ?_⟩
          refine ⟨by rw [sizeLine_eq]; first | decide | simp, fun t nt => ?_⟩
          generalize hg : upd _ t _ = H6
          have s6 := sameOf nt hg
          have e6 := atOf hg
          clear hg
          have ss : Same H H5 := fun b o h => x5 b o (fun z => by rw [z, npl] at h; cases h) (x4 b o (fun z => by rw [z, npl] at h; cases h) (s3 b o h))
          exact ⟨t, _, rfl, SqT.of e6, rfl, _, _, rfl, _, _, rfl, rfl, hN2 _ _ ⟨x, y, c, d, rfl, npl, p5.same s6, ss.trans s6, (hc.pool p4 x5).same s6, hc'.same s6, hd, hf, hs, hd', hf', hs'⟩⟩
        clear hp3 s3
        rintro σ' H4 ⟨x, y, c, d, rfl, t4⟩
        refine seq_gen (fun σ' H' => ∃ k, σ' = [some (.ref a), vk, some (.ref pl), some (.ref k), v4, some (.ref x), some (.ref y), v7, v8, v9, v10] ∧ T74 K H pl x y c d H' ∧ H' k = some (.lst [.str c.text, .str d.text])) (fun N2 hN2 => ?_) ?_
        · dsimp only [tAsg, tLst]
          walk_at "nm"
          refine repr_c t4.h1 t4.d1 t4.f1 ?_
          refine repr_c t4.h2 t4.d2 t4.f2 ?_
          refine ⟨by rw [sizeLine_eq]; first | decide | simp, fun k nk => ?_⟩
          generalize hg : upd _ k _ = H5
          have s5 := sameOf nk hg
          have e5 := atOf hg
          clear hg
          exact hN2 _ _ ⟨k, rfl, t4.same s5, e5⟩
        rintro σ' H5 ⟨k, rfl, t5, k5⟩
        refine seq_gen (fun σ' H' => ∃ v4, σ' = [some (.ref a), vk, some (.ref pl), some (.ref k), v4, some (.ref x), some (.ref y), v7, v8, v9, v10] ∧ T74 K H pl x y c d H' ∧ H' k = some (.lst [.str c.text, .str d.text])) (fun N2 hN2 => ?_) ?_
        · have ls1 := t5.l1
          have ls2 := t5.l2
          have ds1 := t5.d1
          have ds2 := t5.d2
          refine ⟨_, rfl, _, rfl, _, rfl, _, rfl, ?_⟩
          refine bin_c (E := E0) t5.h1 t5.h2 ⟨x, y, c, d, rfl, t5.h1, t5.h2, by omega, fun u1 G1 s1 b1 => ?_⟩
          have t1 := t5.same s1
          refine ⟨_, rfl, _, rfl, ?_⟩
          refine bin_c (E := E0) t1.h1 t1.h2 ⟨x, y, c, d, rfl, t1.h1, t1.h2, by omega, fun u2 G2 s2 b2 => ?_⟩
          have t2 := t1.same s2
          refine ⟨_, rfl, ?_⟩
          refine inv_c (E := E0) t2.h1 ⟨x, c, rfl, t2.h1, fun u3 G3 s3 b3 => ?_⟩
          have t3 := t2.same s3
          refine ⟨by rw [sizeLine_eq]; first | decide | simp, fun L nL => ?_⟩
          generalize hg : upd _ L _ = G4
          have s4 := sameOf nL hg
          have eL := atOf hg
          clear hg
          have t4 := t3.same s4
          have B1 : CondAt K G4 u1 (.both c d) := ⟨x, y, (((b1.same s2).same s3).same s4), t4.h1, t4.h2⟩
          have B2 : CondAt K G4 u2 (.either c d) := ⟨x, y, ((b2.same s3).same s4), t4.h1, t4.h2⟩
          have B3 : CondAt K G4 u3 (.opp c) := ⟨x, (b3.same s4), t4.h1⟩
          refine ⟨L, rfl, ⟨_, SqL.of eL⟩, for_list (K := K) (a := L) (xs := [.ref x, .ref y, .ref u1, .ref u2, .ref u3]) (fun j σ' H' => (∃ v4, σ' = [some (.ref a), vk, some (.ref pl), some (.ref k), v4, some (.ref x), some (.ref y), v7, v8, v9, v10]) ∧ T74 K H pl x y c d H' ∧ H' k = some (.lst [.str c.text, .str d.text]) ∧ H' L = some (.lst [.ref x, .ref y, .ref u1, .ref u2, .ref u3]) ∧ CondAt K H' u1 (.both c d) ∧ CondAt K H' u2 (.either c d) ∧ CondAt K H' u3 (.opp c)) ⟨⟨_, rfl⟩, t4, s4 _ _ (s3 _ _ (s2 _ _ (s1 _ _ k5))), eL, B1, B2, B3⟩ (fun j σ' H' _ h => SqL.of h.2.2.2.1) ?_ (fun σ' H' h => hN2 _ _ ⟨h.1.choose, h.1.choose_spec, h.2.1, h.2.2.1⟩)⟩
          rintro j z σ' H7 hj ⟨⟨v4', rfl⟩, t7, k7, L7, c1, c2, c3⟩
          dsimp only [gName]
          simp only [List.set_cons_succ, List.set_cons_zero]
          obtain ⟨w, e, rfl, he, hd, hf, hs⟩ : ∃ w e, z = .ref w ∧ CondAt K H7 w e ∧ e.deep ≤ 5 ∧ e.fine ∧ e.simple.length ≤ 30 := by
            match j, hj with
            | 0, hj => exact ⟨x, c, (Option.some.inj hj).symm, t7.h1, by omega, t7.f1, by omega⟩
            | 1, hj => exact ⟨y, d, (Option.some.inj hj).symm, t7.h2, by omega, t7.f2, by omega⟩
            | 2, hj => exact ⟨u1, _, (Option.some.inj hj).symm, c1, by show max c.deep d.deep + 1 ≤ 5; omega, ⟨t7.f1, t7.f2⟩, by show (c.simple ++ d.simple).length ≤ 30; rw [List.length_append]; omega⟩
            | 3, hj => exact ⟨u2, _, (Option.some.inj hj).symm, c2, by show max c.deep d.deep + 1 ≤ 5; omega, ⟨t7.f1, t7.f2⟩, by show (c.simple ++ d.simple).length ≤ 30; rw [List.length_append]; omega⟩
            | 4, hj => exact ⟨u3, _, (Option.some.inj hj).symm, c3, by show c.deep + 1 ≤ 5; omega, t7.f1, by show c.simple.length ≤ 30; omega⟩
          walk_at "nm"
          refine ⟨pl, w, e, rfl, t7.pool, he, hd, hf, hs, fun H8 p8 x8 => ?_⟩
          refine ⟨_, rfl, ?_⟩
          rw [if_neg (by simp)]
          exact ⟨⟨_, rfl⟩, t7.ex x8 p8, x8 _ _ (pool_neK t7.pool k7 (fun _ z => by cases z)) k7, x8 _ _ (pool_neK t7.pool L7 (fun _ z => by cases z)) L7, c1.pool t7.pool x8, c2.pool t7.pool x8, c3.pool t7.pool x8⟩
        rintro σ' H6 ⟨v4', rfl, t6, k6⟩
        refine seq_gen (fun σ' H' => ∃ u1 u2 u3, σ' = [some (.ref a), vk, some (.ref pl), some (.ref k), v4', some (.ref x), some (.ref y), some (.ref u1), some (.ref u2), some (.ref u3), v10] ∧ T74 K H pl x y c d H' ∧ H' k = some (.lst [.str c.text, .str d.text]) ∧ U74 K H' x y c d u1 u2 u3) (fun N2 hN2 => ?_) ?_
        · have ls1 := t6.l1
          have ls2 := t6.l2
          dsimp only [tPar3]
          walk_at "nm"
          refine bin_c (E := E0) t6.h1 t6.h2 ⟨x, y, c, d, rfl, t6.h1, t6.h2, by omega, fun u1 G1 s1 b1 => ?_⟩
          have t1 := t6.same s1
          refine bin_c (E := E0) t1.h1 t1.h2 ⟨x, y, c, d, rfl, t1.h1, t1.h2, by omega, fun u2 G2 s2 b2 => ?_⟩
          have t2 := t1.same s2
          refine inv_c (E := E0) t2.h1 ⟨x, c, rfl, t2.h1, fun u3 G3 s3 b3 => ?_⟩
          have t3 := t2.same s3
          exact ⟨_, _, _, ⟨rfl, rfl, rfl⟩, hN2 _ _ ⟨u1, u2, u3, rfl, t3, s3 _ _ (s2 _ _ (s1 _ _ k6)), ⟨(b1.same s2).same s3, b2.same s3, b3⟩⟩⟩
        rintro σ' H7 ⟨u1, u2, u3, rfl, t7, k7, m7⟩
        refine seq_gen (fun σ' H' => σ' = [some (.ref a), vk, some (.ref pl), some (.ref k), v4', some (.ref x), some (.ref y), some (.ref u1), some (.ref u2), some (.ref u3), v10] ∧ T74 K H pl x y c d H' ∧ H' k = some (.lst [.str c.text, .str d.text])) (fun N2 hN2 => ?_) ?_
        · walk_at "nm"
          refine parts_i T.toTxt (.both c d) rfl rfl m7.b fun p1 h1 => ?_
          refine parts_i T.toTxt (.either c d) rfl rfl m7.e fun p2 h2 => ?_
          refine parts_i T.toTxt (.opp c) rfl rfl m7.n fun p3 h3 => ?_
          refine ⟨by rw [sizeLine_eq]; first | decide | simp, fun L1 nL1 => ?_⟩
          generalize hg : upd _ L1 _ = G1
          have s1 := sameOf nL1 hg
          have e1 := atOf hg
          clear hg
          refine ⟨by rw [sizeLine_eq]; first | decide | simp, fun q1 nq1 => ?_⟩
          generalize hg : upd _ q1 _ = G2
          have s2 := sameOf nq1 hg
          have e2 := atOf hg
          clear hg
          refine ⟨by rw [sizeLine_eq]; first | decide | simp, fun q2 nq2 => ?_⟩
          generalize hg : upd _ q2 _ = G3
          have s3 := sameOf nq2 hg
          have e3 := atOf hg
          clear hg
          refine ⟨by rw [sizeLine_eq]; first | decide | simp, fun q3 nq3 => ?_⟩
          generalize hg : upd _ q3 _ = G4
          have s4 := sameOf nq3 hg
          have e4 := atOf hg
          clear hg
          refine ⟨by rw [sizeLine_eq]; first | decide | simp, fun L2 nL2 => ?_⟩
          generalize hg : upd _ L2 _ = G5
          have s5 := sameOf nL2 hg
          have e5 := atOf hg
          clear hg
          have z15 : Same H7 G5 := (((s1.trans s2).trans s3).trans s4).trans s5
          have fl : ∀ s : Str, DFl (.str s) (.str s) G5 := fun s => ⟨rfl, rfl, by simp [eqV]⟩
          refine ⟨⟨L1, L2, _, _, rfl, rfl, s5 _ _ (s4 _ _ (s3 _ _ (s2 _ _ e1))), e5, PrB.cons ⟨p1, q1, _, _, rfl, rfl, z15 _ _ h1, s5 _ _ (s4 _ _ (s3 _ _ e2)), PrB.cons (.inl (fl _)) (PrB.cons (.inr ⟨rfl, _, rfl⟩) (PrB.cons (.inr ⟨rfl, _, rfl⟩) PrB.nil))⟩ (PrB.cons ⟨p2, q2, _, _, rfl, rfl, z15 _ _ h2, s5 _ _ (s4 _ _ e3), PrB.cons (.inl (fl _)) (PrB.cons (.inr ⟨rfl, _, rfl⟩) (PrB.cons (.inr ⟨rfl, _, rfl⟩) PrB.nil))⟩ (PrB.cons ⟨p3, q3, _, _, rfl, rfl, z15 _ _ h3, s5 _ _ e4, PrB.cons (.inl (fl _)) (PrB.cons (.inr ⟨rfl, _, rfl⟩) PrB.nil)⟩ PrB.nil))⟩, fun G6 s6 => ⟨_, rfl, ?_⟩⟩
          rw [if_neg (by simp)]
          exact hN2 _ _ ⟨rfl, (t7.same z15).same s6, s6 _ _ (z15 _ _ k7)⟩
        rintro σ' H8 ⟨rfl, t8, k8⟩
        refine seq_gen (fun σ' H' => σ' = [some (.ref a), vk, some (.ref pl), some (.ref k), v4', some (.ref x), some (.ref y), some (.ref u1), some (.ref u2), some (.ref u3), v10] ∧ T74 K H pl x y c d H' ∧ H' k = some (.lst [.str c.text, .str d.text])) (fun N2 hN2 => ?_) ?_
        · walk_at "nm"
          have ds1 := t8.d1
          have te : decide (V.str c.text = V.str d.text) = decide (c = d) := by
            rw [Bool.eq_iff_iff, decide_eq_true_iff, decide_eq_true_iff]
            exact ⟨fun h => text_inj t8.f1 t8.f2 (by injection h), fun h => by rw [h]⟩
          refine eq_c T.toTxt t8.h1 t8.h2 (by omega) ?_
          refine ixL (SqL.of k8) rfl (ixL (SqL.of k8) rfl ⟨rfl, ⟨rfl, _, rfl, ?_⟩⟩)
          rw [te, if_neg (by simp)]
          refine ne_c T.toTxt t8.h1 t8.h2 (by omega) ?_
          refine ixL (SqL.of k8) rfl (ixL (SqL.of k8) rfl ⟨rfl, ⟨rfl, _, rfl, ?_⟩⟩)
          rw [te, if_neg (by simp)]
          exact hN2 _ _ ⟨rfl, t8, k8⟩
        rintro σ' H9 ⟨rfl, t9, k9⟩
        refine seq_gen (fun σ' H' => σ' = [some (.ref a), vk, some (.ref pl), some (.ref k), v4', some (.ref x), some (.ref y), some (.ref u1), some (.ref u2), some (.ref u3), v10] ∧ T74 K H pl x y c d H' ∧ H' k = some (.lst [.str c.text, .str d.text])) (fun N2 hN2 => ?_) ?_
        · walk_at "nm"
          refine tLcL_via ?_
          walk_at "nm"
          refine ixL (SqL.of k9) rfl ?_
          refine parts_c T.toTxt rfl t9.h1 fun p1 sh h1 _ => ?_
          refine ⟨by rw [sizeLine_eq]; first | decide | simp, fun l1 nl1 => ?_⟩
          generalize hg : upd _ l1 _ = G1
          have s1 := sameOf nl1 hg
          have e1 := atOf hg
          clear hg
          refine ⟨by rw [sizeLine_eq]; first | decide | simp, fun l2 nl2 => ?_⟩
          generalize hg : upd _ l2 _ = G2
          have s2 := sameOf nl2 hg
          have e2 := atOf hg
          clear hg
          have h12 : G2 p1 = some (.tup sh) := s2 _ _ (s1 _ _ h1)
          have e12 : G2 l1 = some (.lst [.ref x]) := s2 _ _ e1
          have z12 : Same H9 G2 := s1.trans s2
          refine lc_none e2 (fun Q' q' => q') (fun _ => rfl) (fun z G Q' hz sz q' => ?_) (fun G D sz eD => ?_)
          · have hx : CondAt K G x c := (t9.h1.same z12).same sz
            have hk : ∃ k, Is K G z k ∧ ∀ a D, k ≠ .ins a D := by
              simp only [List.mem_cons, List.not_mem_nil, or_false] at hz
              rcases hz with rfl | rfl | rfl | rfl | rfl
              · exact ⟨_, .non, fun _ _ z => by cases z⟩
              · exact ⟨_, .int _, fun _ _ z => by cases z⟩
              · exact ⟨_, .str _, fun _ _ z => by cases z⟩
              · exact ⟨_, .tup (sz _ _ h12), fun _ _ z => by cases z⟩
              · exact ⟨_, .lst (sz _ _ e12), fun _ _ z => by cases z⟩
            obtain ⟨kn, hk, nk⟩ := hk
            walk_at "nm"
            refine ⟨_, rfl, _, rfl, ?_⟩
            refine eq_no T.toTxt hx hk nk ⟨_, rfl, ?_⟩
            rw [if_neg (by simp)]
            refine ⟨_, rfl, _, rfl, ?_⟩
            exact ne_no T.toTxt hx hk nk ⟨_, rfl, q' G (Same.refl _)⟩
          · refine ⟨by rw [sizeLine_eq]; first | decide | simp, fun E nE => ?_⟩
            generalize hg : upd _ E _ = G6
            have s6 := sameOf nE hg
            have e6 := atOf hg
            clear hg
            refine ⟨D, E, [], rfl, rfl, s6 _ _ eD, e6, _, rfl, ?_⟩
            rw [if_neg (by simp)]
            exact hN2 _ _ ⟨rfl, ((t9.same z12).same sz).same s6, s6 _ _ (sz _ _ (z12 _ _ k9))⟩
        rintro σ' H10 ⟨rfl, t10, k10⟩
        have ds1 := t10.d1
        have ds2 := t10.d2
        have ls1 := t10.l1
        have ls2 := t10.l2
        walk_at "nm"
        refine repr_c t10.h1 t10.d1 t10.f1 ?_
        refine repr_c t10.h2 t10.d2 t10.f2 ?_
        refine ⟨by rw [sizeLine_eq]; first | decide | simp, fun l1 nl1 => ?_⟩
        generalize hg : upd _ l1 _ = G1
        have s1 := sameOf nl1 hg
        have e1 := atOf hg
        clear hg
        have fl : ∀ s : Str, DFl (.str s) (.str s) G1 := fun s => ⟨rfl, rfl, by simp [eqV]⟩
        refine ⟨⟨l1, k, _, _, rfl, rfl, e1, s1 _ _ k10, PrB.cons (fl _) (PrB.cons (fl _) PrB.nil)⟩, fun G2 s2 => ⟨_, rfl, ?_⟩⟩
        rw [if_neg (by simp)]
        have t2 := (t10.same s1).same s2
        refine inv_c t2.h1 ⟨x, c, rfl, t2.h1, fun n1 G3 s3 b3 => ?_⟩
        have t3 := t2.same s3
        have hn1 : CondAt K G3 n1 (.opp c) := ⟨x, b3, t3.h1⟩
        refine inv_c hn1 ⟨n1, .opp c, rfl, hn1, fun n2 G4 s4 b4 => ?_⟩
        have t4 := t3.same s4
        have hn2 : CondAt K G4 n2 (.opp (.opp c)) := ⟨n1, b4, hn1.same s4⟩
        refine eq_c T.toTxt hn2 t4.h1 (by show c.deep + 1 + 1 < 8; omega) ⟨_, rfl, ?_⟩
        have ne : Cnd.opp (.opp c) ≠ c := fun e => by
          have := congrArg Cnd.deep e
          have z : (Cnd.opp (.opp c)).deep = c.deep + 1 + 1 := rfl
          omega
        rw [decide_eq_false ne, if_neg (by simp)]
        refine bin_c t4.h1 t4.h2 ⟨x, y, c, d, rfl, t4.h1, t4.h2, by omega, fun m1 G5 s5 b5 => ?_⟩
        have t5 := t4.same s5
        have hm1 : CondAt K G5 m1 (.both c d) := ⟨x, y, b5, t5.h1, t5.h2⟩
        refine bin_c t5.h2 t5.h1 ⟨y, x, d, c, rfl, t5.h2, t5.h1, by omega, fun m2 G6 s6 b6 => ?_⟩
        have t6 := t5.same s6
        have hm2 : CondAt K G6 m2 (.both d c) := ⟨y, x, b6, t6.h2, t6.h1⟩
        refine eq_c T.toTxt (hm1.same s6) hm2 (by show max c.deep d.deep + 1 < 8; omega) ?_
        refine eq_c T.toTxt t6.h1 t6.h2 (by omega) ⟨rfl, _, rfl, ?_⟩
        have ee : decide (Cnd.both c d = Cnd.both d c) = decide (c = d) := by
          rw [Bool.eq_iff_iff, decide_eq_true_iff, decide_eq_true_iff]
          exact ⟨fun h => by injection h, fun h => by rw [h]⟩
        rw [ee, if_neg (by simp)]
        exact ⟨⟨_, rfl⟩, t6.ext⟩
      · intro σ' H' _
        exact hN _ _ trivial
    walk_at "nm"
    refine ⟨.beg "a", ?_⟩
    dsimp only [tProp, tMake]
    walk_at "nm"
    intro u1 du1 nu1 ndu1 neu1
    generalize hg : upd (upd _ du1 _) u1 _ = G1
    have s1 := madeOf nu1 ndu1 neu1 hg
    have e1 := atOf hg
    clear hg
    refine ⟨u1, du1, Str.ofString "a", rfl, e1, by decide +kernel, by decide +kernel, fun G2 c2 x2 => ⟨rfl, ?_⟩⟩
    obtain ⟨dx, p, l, us, h1, h2, h3, h4⟩ := c2
    refine ⟨_, _, h1, u1, _, _, _, _, rfl, h1, T.c_Begins, T.n_Begins_own_shape, ?_⟩
    refine ⟨by rw [sizeLine_eq]; first | decide | simp, fun q1 nq1 => ?_⟩
    generalize hg : upd _ q1 _ = G3
    have s3 := sameOf nq1 hg
    have e3 := atOf hg
    clear hg
    refine eqD_same (.tuple [.str (Str.ofString "begins"), .str (Str.ofString "a")]) (.tup (SqT.of (s3 _ _ h2)) (.cons (.str _) (.cons (.str _) .nil))) (.tup (SqT.of e3) (.cons (.str _) (.cons (.str _) .nil))) (by decide +kernel) ⟨_, rfl, ?_⟩
    rw [if_pos rfl]
    refine ⟨.len 1 20, ?_⟩
    intro u2 du2 nu2 ndu2 neu2
    generalize hg : upd (upd _ du2 _) u2 _ = G4
    have s4 := madeOf nu2 ndu2 neu2 hg
    have e4 := atOf hg
    clear hg
    refine ⟨u2, du2, 1, 20, rfl, e4, by decide, by decide, by decide, fun G5 c5 x5 => ⟨rfl, ?_⟩⟩
    obtain ⟨dy, p', l', us', g1, g2, g3, g4⟩ := c5
    refine ⟨_, _, g1, u2, _, _, _, _, rfl, g1, T.c_Length, T.n_Length_own_shape, ?_⟩
    refine ⟨by rw [sizeLine_eq]; first | decide | simp, fun q2 nq2 => ?_⟩
    generalize hg : upd _ q2 _ = G6
    have s6 := sameOf nq2 hg
    have e6 := atOf hg
    clear hg
    exact eqD_same (.tuple [.str (Str.ofString "length"), .int 1, .int 20]) (.tup (SqT.of (s6 _ _ g2)) (.cons (.str _) (.cons (.int _) (.cons (.int _) .nil)))) (.tup (SqT.of e6) (.cons (.str _) (.cons (.int _) (.cons (.int _) .nil)))) (by decide +kernel) (q _)

theorem law_end {P : Program} {w : World} {K : Frag} {mg : Str → Option Value} (T : TxtP P K mg) :
    ∃ sp : Sp, (∀ (H : Hp) (a : Addr) (ns : List Int), ns.length ≤ 63 → (∀ z ∈ ns, Builtin.Int.intBits z ≤ 1048576) → (∀ p ∈ tf.map (cTA K), H p.2 = some (.tbl #[])) → SqL K H a (ns.map V.int) → sp [.ref a] H (fun v _ => v = .bl true) fun _ _ _ => False) ∧ LawOkT P w K mg (tf.map (cTA K)) 40 (ga K "law") sp :=
  ⟨sp_law K, fun H a ns hl hb ht hS => ⟨a, ns, rfl, hS, hl, hb, ht, fun _ => rfl⟩, ok_law T⟩

set_option maxHeartbeats 0
def fa0 : List Fa := [.glo "is_integer", .glo "in_range", .glo "check_number", .glo "is_key", .glo "check_key", .glo "check_value", .glo "check_simple", .glo "_law_hand", .glo "_law_draw", .glo "_law_key", .glo "_law_condition", .glo "_law_holds", .glo "_law_text", .glo "_law_many", .glo "_law_again", .glo "_law_right", .glo "law", .glo "InvalidNumber", .glo "InvalidKey", .glo "InvalidText", .glo "InvalidRange", .glo "LimitExceeded", .glo "Condition", .glo "Begins", .cls "Begins", .mkr "Begins", .noat "Begins" "own_shape", .noat "Begins" "own_simple", .meth "Begins" "holds", .meth "Begins" "__repr__", .meth "Begins" "__call__", .meth "Begins" "__and__", .meth "Begins" "__or__", .meth "Begins" "__invert__", .meth "Begins" "__len__", .meth "Begins" "__eq__", .glo "Length", .cls "Length", .mkr "Length", .noat "Length" "own_shape", .noat "Length" "own_simple", .meth "Length" "holds", .meth "Length" "__repr__", .meth "Length" "__call__", .meth "Length" "__and__", .meth "Length" "__or__", .meth "Length" "__invert__", .meth "Length" "__len__", .meth "Length" "__eq__", .glo "Value", .cls "Value", .mkr "Value", .noat "Value" "own_shape", .noat "Value" "own_simple", .meth "Value" "holds", .meth "Value" "__repr__", .meth "Value" "__call__", .meth "Value" "__and__", .meth "Value" "__or__", .meth "Value" "__invert__", .meth "Value" "__len__", .meth "Value" "__eq__", .glo "Both", .cls "Both", .mkr "Both", .noat "Both" "own_shape", .noat "Both" "own_simple", .meth "Both" "holds", .meth "Both" "__repr__", .meth "Both" "__call__", .meth "Both" "__and__", .meth "Both" "__or__", .meth "Both" "__invert__", .meth "Both" "__len__", .meth "Both" "__eq__", .glo "Either", .cls "Either", .mkr "Either", .noat "Either" "own_shape", .noat "Either" "own_simple", .meth "Either" "holds", .meth "Either" "__repr__", .meth "Either" "__call__", .meth "Either" "__and__", .meth "Either" "__or__", .meth "Either" "__invert__", .meth "Either" "__len__", .meth "Either" "__eq__", .glo "Opposite", .cls "Opposite", .mkr "Opposite", .noat "Opposite" "own_shape", .noat "Opposite" "own_simple", .meth "Opposite" "holds", .meth "Opposite" "__repr__", .meth "Opposite" "__call__", .meth "Opposite" "__and__", .meth "Opposite" "__or__", .meth "Opposite" "__invert__", .meth "Opposite" "__len__", .meth "Opposite" "__eq__", .int "MAX_LENGTH" 20, .str "CHARACTERS" "abcdefghijklmnopqrstuvwxyz0123456789", .int "MOST_SIMPLE" 30, .free "all", .free "bool", .free "int", .free "isinstance", .free "len", .free "max", .free "min", .free "range", .free "repr", .free "str", .free "sum", .free "super"]
def fa : List Fa := fa0
def fn0 : List DefG := [g_is_integer, g_in_range, g_check_number, g_is_key, g_check_key, g_check_value, g_check_simple, g__law_hand, g__law_draw, g__law_key, g__law_condition, g__law_holds, g__law_text, g__law_many, g__law_again, g__law_right, g_law, g_InvalidNumber_init, g_InvalidKey_init, g_InvalidText_init, g_InvalidRange_init, g_LimitExceeded_init, g_Condition_init, g_Condition_parts, g_Condition_call, g_Condition_and, g_Condition_or, g_Condition_invert, g_Condition_len, g_Condition_eq, g_Begins_init, g_Begins_holds, g_Begins_repr, g_Length_init, g_Length_holds, g_Length_repr, g_Value_init, g_Value_holds, g_Value_repr, g_Both_init, g_Both_holds, g_Both_repr, g_Either_init, g_Either_holds, g_Either_repr, g_Opposite_init, g_Opposite_holds, g_Opposite_repr]
def fn : List DefG := fn0
def loose0 : List Str := ["InvalidNumber", "InvalidKey", "InvalidText", "InvalidRange", "LimitExceeded", "MAX_LENGTH", "CHARACTERS", "is_integer", "in_range", "check_number", "is_key", "check_key", "check_value", "MOST_SIMPLE", "Condition", "check_simple", "Begins", "Length", "Value", "Both", "Either", "Opposite", "_law_hand", "_law_draw", "_law_key", "_law_mix", "_law_condition", "_law_holds", "_law_text", "_law_many"]
def loose1 : List Str := ["_law_again", "_law_right"]
def loose : List Str := (loose0 ++ loose1)
def ex0 (K : Frag) : Bool := excTB .ve "InvalidNumber" K && (eqO (PySem.W.findIn K (.ref (ga K "InvalidNumber")) "value") (some none) && (excTB .ve "InvalidKey" K && (eqO (PySem.W.findIn K (.ref (ga K "InvalidKey")) "value") (some none) && (excTB .ve "InvalidText" K && (eqO (PySem.W.findIn K (.ref (ga K "InvalidText")) "value") (some none) && (excTB .ve "InvalidRange" K && (eqO (PySem.W.findIn K (.ref (ga K "InvalidRange")) "least") (some none) && (eqO (PySem.W.findIn K (.ref (ga K "InvalidRange")) "most") (some none) && (excTB .oe "LimitExceeded" K && (eqO (PySem.W.findIn K (.ref (ga K "LimitExceeded")) "limit") (some none) && (ownKB "Condition" K && (fnInB "Condition" "__call__" K && (propB "Begins" "parts" K && (decide (gtA "Begins" "parts" K = gtA "Condition" "parts" K) && (decide (mtA "Begins" "__call__" K = mtA "Condition" "__call__" K) && (decide (mtA "Begins" "__and__" K = mtA "Condition" "__and__" K) && (decide (mtA "Begins" "__or__" K = mtA "Condition" "__or__" K) && (decide (mtA "Begins" "__invert__" K = mtA "Condition" "__invert__" K) && (decide (mtA "Begins" "__len__" K = mtA "Condition" "__len__" K) && (decide (mtA "Begins" "__eq__" K = mtA "Condition" "__eq__" K) && (ownCB "Begins" K && (firstB "Begins" K && (noNeB "Begins" K && (propB "Length" "parts" K && (decide (gtA "Length" "parts" K = gtA "Condition" "parts" K) && (decide (mtA "Length" "__call__" K = mtA "Condition" "__call__" K) && (decide (mtA "Length" "__and__" K = mtA "Condition" "__and__" K) && (decide (mtA "Length" "__or__" K = mtA "Condition" "__or__" K) && (decide (mtA "Length" "__invert__" K = mtA "Condition" "__invert__" K) && (decide (mtA "Length" "__len__" K = mtA "Condition" "__len__" K) && (decide (mtA "Length" "__eq__" K = mtA "Condition" "__eq__" K) && (ownCB "Length" K && (firstB "Length" K && (noNeB "Length" K && (propB "Value" "parts" K && (decide (gtA "Value" "parts" K = gtA "Condition" "parts" K) && (decide (mtA "Value" "__call__" K = mtA "Condition" "__call__" K) && (decide (mtA "Value" "__and__" K = mtA "Condition" "__and__" K) && (decide (mtA "Value" "__or__" K = mtA "Condition" "__or__" K) && (decide (mtA "Value" "__invert__" K = mtA "Condition" "__invert__" K) && (decide (mtA "Value" "__len__" K = mtA "Condition" "__len__" K) && (decide (mtA "Value" "__eq__" K = mtA "Condition" "__eq__" K) && (ownCB "Value" K && (firstB "Value" K && (noNeB "Value" K && (propB "Both" "parts" K && (decide (gtA "Both" "parts" K = gtA "Condition" "parts" K) && (decide (mtA "Both" "__call__" K = mtA "Condition" "__call__" K) && (decide (mtA "Both" "__and__" K = mtA "Condition" "__and__" K) && (decide (mtA "Both" "__or__" K = mtA "Condition" "__or__" K) && (decide (mtA "Both" "__invert__" K = mtA "Condition" "__invert__" K) && (decide (mtA "Both" "__len__" K = mtA "Condition" "__len__" K) && (decide (mtA "Both" "__eq__" K = mtA "Condition" "__eq__" K) && (ownCB "Both" K && (firstB "Both" K && (noNeB "Both" K && (propB "Either" "parts" K && (decide (gtA "Either" "parts" K = gtA "Condition" "parts" K) && (decide (mtA "Either" "__call__" K = mtA "Condition" "__call__" K) && (decide (mtA "Either" "__and__" K = mtA "Condition" "__and__" K) && (decide (mtA "Either" "__or__" K = mtA "Condition" "__or__" K) && (decide (mtA "Either" "__invert__" K = mtA "Condition" "__invert__" K) && (decide (mtA "Either" "__len__" K = mtA "Condition" "__len__" K) && (decide (mtA "Either" "__eq__" K = mtA "Condition" "__eq__" K) && (ownCB "Either" K && (firstB "Either" K && (noNeB "Either" K && (propB "Opposite" "parts" K && (decide (gtA "Opposite" "parts" K = gtA "Condition" "parts" K) && (decide (mtA "Opposite" "__call__" K = mtA "Condition" "__call__" K) && (decide (mtA "Opposite" "__and__" K = mtA "Condition" "__and__" K) && (decide (mtA "Opposite" "__or__" K = mtA "Condition" "__or__" K) && (decide (mtA "Opposite" "__invert__" K = mtA "Condition" "__invert__" K) && (decide (mtA "Opposite" "__len__" K = mtA "Condition" "__len__" K) && (decide (mtA "Opposite" "__eq__" K = mtA "Condition" "__eq__" K) && (ownCB "Opposite" K && (firstB "Opposite" K && (noNeB "Opposite" K && (supB flP "Begins" "Condition" g_Begins_init K && (supB flP "Length" "Condition" g_Length_init K && (supB flP "Value" "Condition" g_Value_init K && (supB flP "Both" "Condition" g_Both_init K && (supB flP "Either" "Condition" g_Either_init K && (supB flP "Opposite" "Condition" g_Opposite_init K && (cnB K && (true))))))))))))))))))))))))))))))))))))))))))))))))))))))))))))))))))))))))))))))))))))))
def ex : Frag → Bool := ex0
abbrev R : PySem.W.OpenRow := PySem.W.OpenLaw.row PySem.Challenge.rw_arccursors_k74_conditions
abbrev hk : PySem.W.Hook := hookS fa ex fn tf
def ob (s : PySem.W.SharedT) : Ah.AlT := obsSF fa ex fn tf (HandSHeadRun.getT s)
theorem ob_eq (s : PySem.W.SharedT) : ob s = hk.obs s.abs := obsSF_ok s
theorem run0 (w : World) : HandSHeadRun.RunEq R (PySem.W.view R.prog [37]) (hookS [] (fun _ => true) [] tf) (fun s => obsSF [] (fun _ => true) [] tf (HandSHeadRun.getT s)) 20000 loose w := by
  intro os
  kernel_rfl
theorem lookF0 (w : World) : LookEq R (fun K => fa0.all fun f => f.ok K) 20000 w := by
  intro os
  kernel_rfl
theorem lookD0 (w : World) : LookEq R (fun K => fn0.all fun d => d.ok K) 20000 w := by
  intro os
  kernel_rfl
theorem lookV0 (w : World) : LookV R fn0 20000 w := by
  intro os
  kernel_rfl
theorem lookX0 (w : World) : LookEq R (ex0) 20000 w := by
  intro os
  kernel_rfl
theorem all_F (w : World) : LookEq R (fun K => fa.all fun x => x.ok K) 20000 w := by
  have h := lookF0 w
  have e : (fun K : Frag => fa.all fun x => x.ok K) = fun K => (fa0.all fun x => x.ok K) := by
    funext K
    show (fa0 : List _).all _ = _
    simp only [List.all_append]
  rw [e]
  exact h
theorem all_D (w : World) : LookEq R (fun K => fn.all fun x => x.ok K) 20000 w := by
  have h := lookD0 w
  have e : (fun K : Frag => fn.all fun x => x.ok K) = fun K => (fn0.all fun x => x.ok K) := by
    funext K
    show (fn0 : List _).all _ = _
    simp only [List.all_append]
  rw [e]
  exact h
theorem all_V (w : World) : LookV R fn 20000 w := lookV0 w
theorem all_X (w : World) : LookEq R ex 20000 w := lookX0 w
theorem run (w : World) : HandSHeadRun.RunEq R (PySem.W.view R.prog [37]) hk ob 20000 loose w := run_of (run0 w) ((all_F w).and ((all_X w).and (all_D w))) (all_V w)
theorem txt {K : Frag} {h : Heap} {mg : Str → Option Value} (X : K.In h) (G : h.Ns mainGlobals mg) (c : SaysG fa ex fn K) (t : TabF tf h K) : Txt K mg := by
  have w0 := c.more
  have m0 : ex0 K = true := w0
  unfold ex0 at m0
  obtain ⟨x0, m1⟩ := ba m0
  obtain ⟨x1, m2⟩ := ba m1
  obtain ⟨x2, m3⟩ := ba m2
  obtain ⟨x3, m4⟩ := ba m3
  obtain ⟨x4, m5⟩ := ba m4
  obtain ⟨x5, m6⟩ := ba m5
  obtain ⟨x6, m7⟩ := ba m6
  obtain ⟨x7, m8⟩ := ba m7
  obtain ⟨x8, m9⟩ := ba m8
  obtain ⟨x9, m10⟩ := ba m9
  obtain ⟨x10, m11⟩ := ba m10
  obtain ⟨x11, m12⟩ := ba m11
  obtain ⟨x12, m13⟩ := ba m12
  obtain ⟨x13, m14⟩ := ba m13
  obtain ⟨x14, m15⟩ := ba m14
  obtain ⟨x15, m16⟩ := ba m15
  obtain ⟨x16, m17⟩ := ba m16
  obtain ⟨x17, m18⟩ := ba m17
  obtain ⟨x18, m19⟩ := ba m18
  obtain ⟨x19, m20⟩ := ba m19
  obtain ⟨x20, m21⟩ := ba m20
  obtain ⟨x21, m22⟩ := ba m21
  obtain ⟨x22, m23⟩ := ba m22
  obtain ⟨x23, m24⟩ := ba m23
  obtain ⟨x24, m25⟩ := ba m24
  obtain ⟨x25, m26⟩ := ba m25
  obtain ⟨x26, m27⟩ := ba m26
  obtain ⟨x27, m28⟩ := ba m27
  obtain ⟨x28, m29⟩ := ba m28
  obtain ⟨x29, m30⟩ := ba m29
  obtain ⟨x30, m31⟩ := ba m30
  obtain ⟨x31, m32⟩ := ba m31
  obtain ⟨x32, m33⟩ := ba m32
  obtain ⟨x33, m34⟩ := ba m33
  obtain ⟨x34, m35⟩ := ba m34
  obtain ⟨x35, m36⟩ := ba m35
  obtain ⟨x36, m37⟩ := ba m36
  obtain ⟨x37, m38⟩ := ba m37
  obtain ⟨x38, m39⟩ := ba m38
  obtain ⟨x39, m40⟩ := ba m39
  obtain ⟨x40, m41⟩ := ba m40
  obtain ⟨x41, m42⟩ := ba m41
  obtain ⟨x42, m43⟩ := ba m42
  obtain ⟨x43, m44⟩ := ba m43
  obtain ⟨x44, m45⟩ := ba m44
  obtain ⟨x45, m46⟩ := ba m45
  obtain ⟨x46, m47⟩ := ba m46
  obtain ⟨x47, m48⟩ := ba m47
  obtain ⟨x48, m49⟩ := ba m48
  obtain ⟨x49, m50⟩ := ba m49
  obtain ⟨x50, m51⟩ := ba m50
  obtain ⟨x51, m52⟩ := ba m51
  obtain ⟨x52, m53⟩ := ba m52
  obtain ⟨x53, m54⟩ := ba m53
  obtain ⟨x54, m55⟩ := ba m54
  obtain ⟨x55, m56⟩ := ba m55
  obtain ⟨x56, m57⟩ := ba m56
  obtain ⟨x57, m58⟩ := ba m57
  obtain ⟨x58, m59⟩ := ba m58
  obtain ⟨x59, m60⟩ := ba m59
  obtain ⟨x60, m61⟩ := ba m60
  obtain ⟨x61, m62⟩ := ba m61
  obtain ⟨x62, m63⟩ := ba m62
  obtain ⟨x63, m64⟩ := ba m63
  obtain ⟨x64, m65⟩ := ba m64
  obtain ⟨x65, m66⟩ := ba m65
  obtain ⟨x66, m67⟩ := ba m66
  obtain ⟨x67, m68⟩ := ba m67
  obtain ⟨x68, m69⟩ := ba m68
  obtain ⟨x69, m70⟩ := ba m69
  obtain ⟨x70, m71⟩ := ba m70
  obtain ⟨x71, m72⟩ := ba m71
  obtain ⟨x72, m73⟩ := ba m72
  obtain ⟨x73, m74⟩ := ba m73
  obtain ⟨x74, m75⟩ := ba m74
  obtain ⟨x75, m76⟩ := ba m75
  obtain ⟨x76, m77⟩ := ba m76
  obtain ⟨x77, m78⟩ := ba m77
  obtain ⟨x78, m79⟩ := ba m78
  obtain ⟨x79, m80⟩ := ba m79
  obtain ⟨x80, m81⟩ := ba m80
  obtain ⟨x81, m82⟩ := ba m81
  obtain ⟨x82, m83⟩ := ba m82
  obtain ⟨x83, m84⟩ := ba m83
  obtain ⟨x84, m85⟩ := ba m84
  obtain ⟨x85, m86⟩ := ba m85
  exact {
    d_is_integer := c.def_ 0,
    d_in_range := c.def_ 1,
    d_check_number := c.def_ 2,
    d_is_key := c.def_ 3,
    d_check_key := c.def_ 4,
    d_check_value := c.def_ 5,
    d_check_simple := c.def_ 6,
    d__law_hand := c.def_ 7,
    d__law_draw := c.def_ 8,
    d__law_key := c.def_ 9,
    d__law_condition := c.def_ 10,
    d__law_holds := c.def_ 11,
    d__law_text := c.def_ 12,
    d__law_many := c.def_ 13,
    d__law_again := c.def_ 14,
    d__law_right := c.def_ 15,
    d_law := c.def_ 16,
    d_InvalidNumber_init := c.def_ 17,
    d_InvalidKey_init := c.def_ 18,
    d_InvalidText_init := c.def_ 19,
    d_InvalidRange_init := c.def_ 20,
    d_LimitExceeded_init := c.def_ 21,
    d_Condition_init := c.def_ 22,
    d_Condition_parts := c.def_ 23,
    d_Condition_call := c.def_ 24,
    d_Condition_and := c.def_ 25,
    d_Condition_or := c.def_ 26,
    d_Condition_invert := c.def_ 27,
    d_Condition_len := c.def_ 28,
    d_Condition_eq := c.def_ 29,
    d_Begins_init := c.defC 30,
    d_Begins_holds := c.def_ 31,
    d_Begins_repr := c.def_ 32,
    d_Length_init := c.defC 33,
    d_Length_holds := c.def_ 34,
    d_Length_repr := c.def_ 35,
    d_Value_init := c.defC 36,
    d_Value_holds := c.def_ 37,
    d_Value_repr := c.def_ 38,
    d_Both_init := c.defC 39,
    d_Both_holds := c.def_ 40,
    d_Both_repr := c.def_ 41,
    d_Either_init := c.defC 42,
    d_Either_holds := c.def_ 43,
    d_Either_repr := c.def_ 44,
    d_Opposite_init := c.defC 45,
    d_Opposite_holds := c.def_ 46,
    d_Opposite_repr := c.def_ 47,
    m_is_integer := glo_ok X G (c.fact 0 (f := .glo "is_integer")),
    m_in_range := glo_ok X G (c.fact 1 (f := .glo "in_range")),
    m_check_number := glo_ok X G (c.fact 2 (f := .glo "check_number")),
    m_is_key := glo_ok X G (c.fact 3 (f := .glo "is_key")),
    m_check_key := glo_ok X G (c.fact 4 (f := .glo "check_key")),
    m_check_value := glo_ok X G (c.fact 5 (f := .glo "check_value")),
    m_check_simple := glo_ok X G (c.fact 6 (f := .glo "check_simple")),
    m__law_hand := glo_ok X G (c.fact 7 (f := .glo "_law_hand")),
    m__law_draw := glo_ok X G (c.fact 8 (f := .glo "_law_draw")),
    m__law_key := glo_ok X G (c.fact 9 (f := .glo "_law_key")),
    m__law_condition := glo_ok X G (c.fact 10 (f := .glo "_law_condition")),
    m__law_holds := glo_ok X G (c.fact 11 (f := .glo "_law_holds")),
    m__law_text := glo_ok X G (c.fact 12 (f := .glo "_law_text")),
    m__law_many := glo_ok X G (c.fact 13 (f := .glo "_law_many")),
    m__law_again := glo_ok X G (c.fact 14 (f := .glo "_law_again")),
    m__law_right := glo_ok X G (c.fact 15 (f := .glo "_law_right")),
    m_law := glo_ok X G (c.fact 16 (f := .glo "law")),
    m_InvalidNumber := glo_ok X G (c.fact 17 (f := .glo "InvalidNumber")),
    m_InvalidKey := glo_ok X G (c.fact 18 (f := .glo "InvalidKey")),
    m_InvalidText := glo_ok X G (c.fact 19 (f := .glo "InvalidText")),
    m_InvalidRange := glo_ok X G (c.fact 20 (f := .glo "InvalidRange")),
    m_LimitExceeded := glo_ok X G (c.fact 21 (f := .glo "LimitExceeded")),
    m_Condition := glo_ok X G (c.fact 22 (f := .glo "Condition")),
    m_Begins := glo_ok X G (c.fact 23 (f := .glo "Begins")),
    c_Begins := cls_ok (c.fact 24 (f := .cls "Begins")),
    k_Begins := mkr_ok (c.fact 25 (f := .mkr "Begins")),
    n_Begins_own_shape := noat_ok (c.fact 26 (f := .noat "Begins" "own_shape")),
    n_Begins_own_simple := noat_ok (c.fact 27 (f := .noat "Begins" "own_simple")),
    e_Begins_holds := meth_ok (c.fact 28 (f := .meth "Begins" "holds")),
    e_Begins_repr := meth_ok (c.fact 29 (f := .meth "Begins" "__repr__")),
    e_Begins_call := meth_ok (c.fact 30 (f := .meth "Begins" "__call__")),
    e_Begins_and := meth_ok (c.fact 31 (f := .meth "Begins" "__and__")),
    e_Begins_or := meth_ok (c.fact 32 (f := .meth "Begins" "__or__")),
    e_Begins_invert := meth_ok (c.fact 33 (f := .meth "Begins" "__invert__")),
    e_Begins_len := meth_ok (c.fact 34 (f := .meth "Begins" "__len__")),
    e_Begins_eq := meth_ok (c.fact 35 (f := .meth "Begins" "__eq__")),
    m_Length := glo_ok X G (c.fact 36 (f := .glo "Length")),
    c_Length := cls_ok (c.fact 37 (f := .cls "Length")),
    k_Length := mkr_ok (c.fact 38 (f := .mkr "Length")),
    n_Length_own_shape := noat_ok (c.fact 39 (f := .noat "Length" "own_shape")),
    n_Length_own_simple := noat_ok (c.fact 40 (f := .noat "Length" "own_simple")),
    e_Length_holds := meth_ok (c.fact 41 (f := .meth "Length" "holds")),
    e_Length_repr := meth_ok (c.fact 42 (f := .meth "Length" "__repr__")),
    e_Length_call := meth_ok (c.fact 43 (f := .meth "Length" "__call__")),
    e_Length_and := meth_ok (c.fact 44 (f := .meth "Length" "__and__")),
    e_Length_or := meth_ok (c.fact 45 (f := .meth "Length" "__or__")),
    e_Length_invert := meth_ok (c.fact 46 (f := .meth "Length" "__invert__")),
    e_Length_len := meth_ok (c.fact 47 (f := .meth "Length" "__len__")),
    e_Length_eq := meth_ok (c.fact 48 (f := .meth "Length" "__eq__")),
    m_Value := glo_ok X G (c.fact 49 (f := .glo "Value")),
    c_Value := cls_ok (c.fact 50 (f := .cls "Value")),
    k_Value := mkr_ok (c.fact 51 (f := .mkr "Value")),
    n_Value_own_shape := noat_ok (c.fact 52 (f := .noat "Value" "own_shape")),
    n_Value_own_simple := noat_ok (c.fact 53 (f := .noat "Value" "own_simple")),
    e_Value_holds := meth_ok (c.fact 54 (f := .meth "Value" "holds")),
    e_Value_repr := meth_ok (c.fact 55 (f := .meth "Value" "__repr__")),
    e_Value_call := meth_ok (c.fact 56 (f := .meth "Value" "__call__")),
    e_Value_and := meth_ok (c.fact 57 (f := .meth "Value" "__and__")),
    e_Value_or := meth_ok (c.fact 58 (f := .meth "Value" "__or__")),
    e_Value_invert := meth_ok (c.fact 59 (f := .meth "Value" "__invert__")),
    e_Value_len := meth_ok (c.fact 60 (f := .meth "Value" "__len__")),
    e_Value_eq := meth_ok (c.fact 61 (f := .meth "Value" "__eq__")),
    m_Both := glo_ok X G (c.fact 62 (f := .glo "Both")),
    c_Both := cls_ok (c.fact 63 (f := .cls "Both")),
    k_Both := mkr_ok (c.fact 64 (f := .mkr "Both")),
    n_Both_own_shape := noat_ok (c.fact 65 (f := .noat "Both" "own_shape")),
    n_Both_own_simple := noat_ok (c.fact 66 (f := .noat "Both" "own_simple")),
    e_Both_holds := meth_ok (c.fact 67 (f := .meth "Both" "holds")),
    e_Both_repr := meth_ok (c.fact 68 (f := .meth "Both" "__repr__")),
    e_Both_call := meth_ok (c.fact 69 (f := .meth "Both" "__call__")),
    e_Both_and := meth_ok (c.fact 70 (f := .meth "Both" "__and__")),
    e_Both_or := meth_ok (c.fact 71 (f := .meth "Both" "__or__")),
    e_Both_invert := meth_ok (c.fact 72 (f := .meth "Both" "__invert__")),
    e_Both_len := meth_ok (c.fact 73 (f := .meth "Both" "__len__")),
    e_Both_eq := meth_ok (c.fact 74 (f := .meth "Both" "__eq__")),
    m_Either := glo_ok X G (c.fact 75 (f := .glo "Either")),
    c_Either := cls_ok (c.fact 76 (f := .cls "Either")),
    k_Either := mkr_ok (c.fact 77 (f := .mkr "Either")),
    n_Either_own_shape := noat_ok (c.fact 78 (f := .noat "Either" "own_shape")),
    n_Either_own_simple := noat_ok (c.fact 79 (f := .noat "Either" "own_simple")),
    e_Either_holds := meth_ok (c.fact 80 (f := .meth "Either" "holds")),
    e_Either_repr := meth_ok (c.fact 81 (f := .meth "Either" "__repr__")),
    e_Either_call := meth_ok (c.fact 82 (f := .meth "Either" "__call__")),
    e_Either_and := meth_ok (c.fact 83 (f := .meth "Either" "__and__")),
    e_Either_or := meth_ok (c.fact 84 (f := .meth "Either" "__or__")),
    e_Either_invert := meth_ok (c.fact 85 (f := .meth "Either" "__invert__")),
    e_Either_len := meth_ok (c.fact 86 (f := .meth "Either" "__len__")),
    e_Either_eq := meth_ok (c.fact 87 (f := .meth "Either" "__eq__")),
    m_Opposite := glo_ok X G (c.fact 88 (f := .glo "Opposite")),
    c_Opposite := cls_ok (c.fact 89 (f := .cls "Opposite")),
    k_Opposite := mkr_ok (c.fact 90 (f := .mkr "Opposite")),
    n_Opposite_own_shape := noat_ok (c.fact 91 (f := .noat "Opposite" "own_shape")),
    n_Opposite_own_simple := noat_ok (c.fact 92 (f := .noat "Opposite" "own_simple")),
    e_Opposite_holds := meth_ok (c.fact 93 (f := .meth "Opposite" "holds")),
    e_Opposite_repr := meth_ok (c.fact 94 (f := .meth "Opposite" "__repr__")),
    e_Opposite_call := meth_ok (c.fact 95 (f := .meth "Opposite" "__call__")),
    e_Opposite_and := meth_ok (c.fact 96 (f := .meth "Opposite" "__and__")),
    e_Opposite_or := meth_ok (c.fact 97 (f := .meth "Opposite" "__or__")),
    e_Opposite_invert := meth_ok (c.fact 98 (f := .meth "Opposite" "__invert__")),
    e_Opposite_len := meth_ok (c.fact 99 (f := .meth "Opposite" "__len__")),
    e_Opposite_eq := meth_ok (c.fact 100 (f := .meth "Opposite" "__eq__")),
    v_MAX_LENGTH := int_ok X G (c.fact 101 (f := .int "MAX_LENGTH" 20)),
    v_CHARACTERS := str_ok X G (c.fact 102 (f := .str "CHARACTERS" "abcdefghijklmnopqrstuvwxyz0123456789")),
    v_MOST_SIMPLE := int_ok X G (c.fact 103 (f := .int "MOST_SIMPLE" 30)),
    b_all := free_ok X G (c.fact 104 (f := .free "all")),
    b_bool := free_ok X G (c.fact 105 (f := .free "bool")),
    b_int := free_ok X G (c.fact 106 (f := .free "int")),
    b_isinstance := free_ok X G (c.fact 107 (f := .free "isinstance")),
    b_len := free_ok X G (c.fact 108 (f := .free "len")),
    b_max := free_ok X G (c.fact 109 (f := .free "max")),
    b_min := free_ok X G (c.fact 110 (f := .free "min")),
    b_range := free_ok X G (c.fact 111 (f := .free "range")),
    b_repr := free_ok X G (c.fact 112 (f := .free "repr")),
    b_str := free_ok X G (c.fact 113 (f := .free "str")),
    b_sum := free_ok X G (c.fact 114 (f := .free "sum")),
    b_super := free_ok X G (c.fact 115 (f := .free "super")),
    r_InvalidNumber := excT_ok (glo_ok X G (c.fact 17 (f := .glo "InvalidNumber"))) x0,
    xn_InvalidNumber_value := eqO_ok x1,
    r_InvalidKey := excT_ok (glo_ok X G (c.fact 18 (f := .glo "InvalidKey"))) x2,
    xn_InvalidKey_value := eqO_ok x3,
    r_InvalidText := excT_ok (glo_ok X G (c.fact 19 (f := .glo "InvalidText"))) x4,
    xn_InvalidText_value := eqO_ok x5,
    r_InvalidRange := excT_ok (glo_ok X G (c.fact 20 (f := .glo "InvalidRange"))) x6,
    xn_InvalidRange_least := eqO_ok x7,
    xn_InvalidRange_most := eqO_ok x8,
    r_LimitExceeded := excT_ok (glo_ok X G (c.fact 21 (f := .glo "LimitExceeded"))) x9,
    xn_LimitExceeded_limit := eqO_ok x10,
    q_Condition := ownK_ok x11,
    y_Condition_call := x12,
    p_Begins_parts := propB_ok x13,
    ip_Begins_parts := of_decide_eq_true x14,
    ie_Begins_call := of_decide_eq_true x15,
    ie_Begins_and := of_decide_eq_true x16,
    ie_Begins_or := of_decide_eq_true x17,
    ie_Begins_invert := of_decide_eq_true x18,
    ie_Begins_len := of_decide_eq_true x19,
    ie_Begins_eq := of_decide_eq_true x20,
    o_Begins := ownC_ok (cls_ok (c.fact 24 (f := .cls "Begins"))) x21,
    f_Begins := first_ok x22,
    x_Begins_ne := noNe_ok x23,
    p_Length_parts := propB_ok x24,
    ip_Length_parts := of_decide_eq_true x25,
    ie_Length_call := of_decide_eq_true x26,
    ie_Length_and := of_decide_eq_true x27,
    ie_Length_or := of_decide_eq_true x28,
    ie_Length_invert := of_decide_eq_true x29,
    ie_Length_len := of_decide_eq_true x30,
    ie_Length_eq := of_decide_eq_true x31,
    o_Length := ownC_ok (cls_ok (c.fact 37 (f := .cls "Length"))) x32,
    f_Length := first_ok x33,
    x_Length_ne := noNe_ok x34,
    p_Value_parts := propB_ok x35,
    ip_Value_parts := of_decide_eq_true x36,
    ie_Value_call := of_decide_eq_true x37,
    ie_Value_and := of_decide_eq_true x38,
    ie_Value_or := of_decide_eq_true x39,
    ie_Value_invert := of_decide_eq_true x40,
    ie_Value_len := of_decide_eq_true x41,
    ie_Value_eq := of_decide_eq_true x42,
    o_Value := ownC_ok (cls_ok (c.fact 50 (f := .cls "Value"))) x43,
    f_Value := first_ok x44,
    x_Value_ne := noNe_ok x45,
    p_Both_parts := propB_ok x46,
    ip_Both_parts := of_decide_eq_true x47,
    ie_Both_call := of_decide_eq_true x48,
    ie_Both_and := of_decide_eq_true x49,
    ie_Both_or := of_decide_eq_true x50,
    ie_Both_invert := of_decide_eq_true x51,
    ie_Both_len := of_decide_eq_true x52,
    ie_Both_eq := of_decide_eq_true x53,
    o_Both := ownC_ok (cls_ok (c.fact 63 (f := .cls "Both"))) x54,
    f_Both := first_ok x55,
    x_Both_ne := noNe_ok x56,
    p_Either_parts := propB_ok x57,
    ip_Either_parts := of_decide_eq_true x58,
    ie_Either_call := of_decide_eq_true x59,
    ie_Either_and := of_decide_eq_true x60,
    ie_Either_or := of_decide_eq_true x61,
    ie_Either_invert := of_decide_eq_true x62,
    ie_Either_len := of_decide_eq_true x63,
    ie_Either_eq := of_decide_eq_true x64,
    o_Either := ownC_ok (cls_ok (c.fact 76 (f := .cls "Either"))) x65,
    f_Either := first_ok x66,
    x_Either_ne := noNe_ok x67,
    p_Opposite_parts := propB_ok x68,
    ip_Opposite_parts := of_decide_eq_true x69,
    ie_Opposite_call := of_decide_eq_true x70,
    ie_Opposite_and := of_decide_eq_true x71,
    ie_Opposite_or := of_decide_eq_true x72,
    ie_Opposite_invert := of_decide_eq_true x73,
    ie_Opposite_len := of_decide_eq_true x74,
    ie_Opposite_eq := of_decide_eq_true x75,
    o_Opposite := ownC_ok (cls_ok (c.fact 89 (f := .cls "Opposite"))) x76,
    f_Opposite := first_ok x77,
    x_Opposite_ne := noNe_ok x78,
    su_Begins_init := supB_ok (c.defC 30) rfl rfl x79,
    su_Length_init := supB_ok (c.defC 33) rfl rfl x80,
    su_Value_init := supB_ok (c.defC 36) rfl rfl x81,
    su_Both_init := supB_ok (c.defC 39) rfl rfl x82,
    su_Either_init := supB_ok (c.defC 42) rfl rfl x83,
    su_Opposite_init := supB_ok (c.defC 45) rfl rfl x84,
    cn := cnB_ok x85 }
end k74
open PySem PySem.W PySem.Calls PyProof.Rows
set_option maxRecDepth 100000 in
set_option maxHeartbeats 0 in
theorem PySem.Challenge.cw_arccursors_k74_conditions_holds : PySem.Challenge.rw_arccursors_k74_conditions.Holds := by
  w_on; o_law
  refine HandSHeadRun.head_any (r := OpenLaw.row PySem.Challenge.rw_arccursors_k74_conditions) (q := view (OpenLaw.row PySem.Challenge.rw_arccursors_k74_conditions).prog [37]) (H := k74.hk) (ob := k74.ob) (M := 20000) (loose := k74.loose) (d := HandSHeadRun.topDef (OpenLaw.row PySem.Challenge.rw_arccursors_k74_conditions).prog 37) (kwd := []) k74.ob_eq
    (by kernel_rfl) (fun s => by kernel_rfl) k74.run (by kernel_rfl) (by kernel_rfl) (by kernel_rfl) (by rfl) (by first | assumption | decide +kernel) (by decide +kernel) ⟨rfl, rfl, rfl, rfl, rfl, by decide +kernel⟩ ?hw ?hc
  case hw => w_witness2
  case hc =>
    refine Ah.law_walkT (l := PySem.Challenge.rw_arccursors_k74_conditions) (n := 63) (k := 40) rfl (by decide) (by kernel_rfl) ⟨rfl, by decide, by decide⟩ ?F
    intro w mg fa h Y G hmg0
    obtain ⟨K, KX, c, tt⟩ := Y
    have hmg : mg ("law" : PySem.Str) = some (.ref fa) := by
      have e : (HandSHeadRun.topDef (OpenLaw.row PySem.Challenge.rw_arccursors_k74_conditions).prog 37).name = ("law" : PySem.Str) := by kernel_rfl
      rw [← e]
      exact hmg0
    have T : k74.TxtP (PySem.Challenge.rw_arccursors_k74_conditions).prog K mg := { toTxt := k74.txt KX G c tt, ip := ⟨rfl, by kernel_rfl⟩ }
    have e := hmg.symm.trans T.toTxt.m_law
    cases e
    obtain ⟨sp, h3, h4⟩ := k74.law_end (P := (PySem.Challenge.rw_arccursors_k74_conditions).prog) (w := w) T
    refine ⟨K, k74.tf.map (Ah.cTA K), sp, KX, fun p hp => ?_, fun p hp => ?_, fun p hp => ?_, h3, h4⟩
    · obtain ⟨f, hf, rfl⟩ := List.mem_map.mp hp
      exact tt.empty f hf
    · obtain ⟨f, hf, rfl⟩ := List.mem_map.mp hp
      exact tt.out f hf
    · obtain ⟨f, hf, rfl⟩ := List.mem_map.mp hp
      exact PySem.W.codeHd_of_K KX (tt.hd f hf)
