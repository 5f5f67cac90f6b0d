import PyProof.Rows.All
import Wide.All
import OpenK.AllK
import Wide.FinOn
import KE.KStateDown
import HandS.ForMost
import HandS.More
import HandS.Exc
import HandS.WordsExc
import HandS.Defaults
import HandS.Property
import HandS.Head0
import HandS.Head1
import HandS.Head2
import HandS.HeadEnd
import HandS.HeadHook1
import HandS.HeadHook2
import HandS.HeadHook3
import HandS.HeadHook4
import HandS.IsInst
import HandS.Flow
import HandS.Star
import HandS.FStr
import HandS.OwnEq
import HandS.Wide
import HandS.TupLe
import HandS.Codes
import PyProof.InstNe
import PyProof.StrBlock2
import HandS.SlotsOwn
import KE.KExcInit
import HandS.Walk
import PyProof.ExcBaseAll.LookupError
import PyProof.ExcBaseAll.RuntimeError
import PyProof.ExcBaseAll.OverflowError
import HandS.ExcField
import HandS.ExcInit
import HandS.TryMany
import HandS.ExcIs
import HandS.Lambda
import HandS.EndTab
import KE.DataCmp
import HandS.DictComp
import HandS.SortRule
import HandS.Finally
import HandS.Style
import HandS.HotCalls
import PyProof.ReprNest
import PyProof.DictFindH
import HandS.Conv
import KE.KEqNest
import KE.DataEq
import PyProof.StrLawsRepr
import HandS.ExcOwn
import HandS.ExcValue
import HandS.MakeKw
import KE.KExcIs
import KE.SortKeyHeap
import KE.KIntText
import KE.IntTextLaws
import PyProof.DictUpdate
import PyProof.ListRange
import HandS.ListItems
import HandS.DeepEq
import HandS.TupAny
import KE.KDictPairs
import HandS.FltList
import KE.KItemsList
import PySem.Challenge.RW_arccursors_k33_invalid_journals
set_option Elab.async false
set_option linter.all false
set_option maxRecDepth 100000
set_option maxHeartbeats 4000000
/-! the head of a row by facts: defs at any address -/
namespace Ah
open PySem PySem.Spec PyProof.Rows L2 He
abbrev Frag := PySem.W.Frag
/-- the getter of a property -/
def gtA (C f : Str) (K : Frag) : Addr := match PySem.W.recIn K (ma K (ga K C) f) "property" with
  | some (.ref g :: _) => g
  | _ => 0
def glA (x : Str) (K : Frag) : Addr := ga K x
def mtA (C m : Str) (K : Frag) : Addr := ma K (ga K C) m
structure DefG where
  ad : Frag → Addr
  name : Str
  qual : Str
  params : Arguments
  body : List Stmt
  scope : Scope
  dfl : List Dv := []
  kwd : List (Str × Dv) := []
def fnG (K : Frag) (a : Addr) : FnW := match K.lookup a with
  | some ⟨_, _, .func fd, _⟩ => some (fd.name, fd.qualname, fd.params, fd.body, fd.scope, fd.globals, fd.closure, fd.builtins)
  | _ => none
def DefG.val (d : DefG) : FnW := some (d.name, d.qual, d.params, .stmts d.body, d.scope, mainGlobals, [], builtinsNs)
def DefG.dvs (K : Frag) (d : DefG) : List V := d.dfl.map (Dv.v K)
def DefG.kws (K : Frag) (d : DefG) : List (Str × V) := d.kwd.map fun q => (q.1, q.2.v K)
def DefG.ok (K : Frag) (d : DefG) : Bool := PySem.W.keepIn K (.ref (d.ad K)) && (match K.lookup (d.ad K) with
  | some ⟨_, _, .func fd, _⟩ => PySem.W.codeIn K fd.code d.qual && (dflB K fd.defaults (d.dvs K) && kwdB K fd.kwdefaults (d.kws K))
  | _ => false)
abbrev Stands (K : Frag) (d : DefG) : Prop := ∃ fd, FunD K d.name d.qual d.params d.body d.scope (d.dvs K) (d.kws K) (d.ad K) fd
theorem DefG.funD {K : Frag} {d : DefG} (e : fnG K (d.ad K) = d.val) (c : d.ok K = true) : Stands K d := by
  obtain ⟨kp, c2⟩ := ba c
  unfold fnG at e
  cases q : K.lookup (d.ad K) with
  | none =>
    rw [q] at c2
    cases c2
  | some o =>
    obtain ⟨oc, od, dt, osl⟩ := o
    rw [q] at c2 e
    cases dt with
    | func fd =>
      obtain ⟨n1, n2, n3, n4, n5, n6, n7, n8, n9, n10, n11, n12, n13, n14, n15⟩ := fd
      have e2 : (some (n1, n2, n3, n4, n5, n6, n7, n15) : FnW) = some (d.name, d.qual, d.params, .stmts d.body, d.scope, mainGlobals, [], builtinsNs) := e
      simp only [Option.some.injEq, Prod.mk.injEq] at e2
      obtain ⟨h1, h2, h3, h4, h5, h6, h7, h8⟩ := e2
      subst h1 h2 h3 h4 h5 h6 h7 h8
      have c3 : (PySem.W.codeIn K n13 d.qual && (dflB K n8 (d.dvs K) && kwdB K n9 (d.kws K))) = true := c2
      obtain ⟨k1, k2⟩ := ba c3
      obtain ⟨k3, k4⟩ := ba k2
      exact ⟨_, ⟨oc, od, n8, n9, n10, n11, n12, n13, n14, osl, rfl, q, k1, dflB_ok k3, kwdB_ok k4⟩, kp⟩
    | _ => cases c2
/-- the code object of the def at a -/
def CodeV (K : Frag) (a : Addr) : Value := match K.lookup a with
  | some ⟨_, _, .func fd, _⟩ => fd.code
  | _ => .none
def codeA (K : Frag) (a : Addr) : Addr := match CodeV K a with
  | .ref c => c
  | _ => 0
/-- a def's code object and its table -/
def cTA (K : Frag) (f : Frag → Addr) : Addr × Addr := (codeA K (f K), tabOf K (codeA K (f K)))
def tabB (g : Addr → Option Obj) (tf : List (Frag → Addr)) (K : Frag) : Bool := tf.all fun f => decide (CodeV K (f K) = .ref (codeA K (f K))) && (PySem.W.codeHdIn K (cTA K f).1 (cTA K f).2 && (match g (cTA K f).2 with
  | some o => emptyTab o
  | none => false))
/-- what is known of the tables of the defs tf -/
structure TabF (tf : List (Frag → Addr)) (h : Heap) (K : Frag) : Prop where
  code : ∀ f ∈ tf, CodeV K (f K) = .ref (codeA K (f K))
  hd : ∀ f ∈ tf, PySem.W.codeHdIn K (cTA K f).1 (cTA K f).2 = true
  out : ∀ f ∈ tf, K.lookup (cTA K f).2 = none
  empty : ∀ f ∈ tf, h.get? (cTA K f).2 = some { cls := .none, data := .fields #[] }
abbrev AlG : Type := Bool × List FnW
def obsG (fa : List Fa) (ex : Frag → Bool) (fn : List DefG) (K : Frag) : AlG := ((fa.all fun f => f.ok K) && (ex K && fn.all fun d => d.ok K), fn.map fun d => fnG K (d.ad K))
def valG (fn : List DefG) : AlG := (true, fn.map DefG.val)
def SaysG (fa : List Fa) (ex : Frag → Bool) (fn : List DefG) (K : Frag) : Prop := obsG fa ex fn K = valG fn
abbrev AlT : Type := AlG × Bool
def obsGG (n : Nat) (fa : List Fa) (ex : Frag → Bool) (fn : List DefG) (tf : List (Frag → Addr)) (g : Addr → Option Obj) : AlT := (obsG fa ex fn (frT g (asD g n)), tabB g tf (frT g (asD g n)))
theorem tabF_of {tf : List (Frag → Addr)} {n : Nat} {h : Heap} (e : tabB h.get? tf (frT h.get? (asD h.get? n)) = true) : TabF tf h (frT h.get? (asD h.get? n)) := by
  have key : ∀ f ∈ tf, _ := fun f hf => ba (List.all_eq_true.mp e f hf)
  have tab : ∀ f ∈ tf, ∃ o, h.get? (cTA (frT h.get? (asD h.get? n)) f).2 = some o ∧ emptyTab o = true := fun f hf => by
    have z := (ba (key f hf).2).2
    cases q : h.get? (cTA (frT h.get? (asD h.get? n)) f).2 with
    | none =>
      rw [q] at z
      cases z
    | some o =>
      rw [q] at z
      exact ⟨o, rfl, z⟩
  exact ⟨fun f hf => of_decide_eq_true (key f hf).1, fun f hf => (ba (key f hf).2).1, fun f hf => by
    obtain ⟨o, q, z⟩ := tab f hf
    exact frT_none q z, fun f hf => by
    obtain ⟨o, q, z⟩ := tab f hf
    rw [q, emptyTab_eq z]⟩
def hookG (n : Nat) (fa : List Fa) (ex : Frag → Bool) (fn : List DefG) (tf : List (Frag → Addr)) : PySem.W.Hook where
  α := AlT
  obs := fun s => obsGG n fa ex fn tf s.heap.get?
  val := fun _ => (valG fn, true)
  says := fun _ h => ∃ K : Frag, K.In h ∧ SaysG fa ex fn K ∧ TabF tf h K
  of := fun _ _ e => ⟨_, frT_in, congrArg (fun z : AlT => z.1) e, tabF_of (congrArg (fun z : AlT => z.2) e)⟩
  keeps := fun _ _ _ ⟨K, hK, c, t⟩ k => ⟨K, PySem.W.Frag.In.keeps hK k, c, ⟨t.code, t.hd, t.out, fun f hf => k _ _ (t.empty f hf)⟩⟩
theorem obsGG_eq {n : Nat} {fa : List Fa} {ex : Frag → Bool} {fn : List DefG} {tf : List (Frag → Addr)} {g : Addr → Option Obj} {s : Shared} (h : ∀ a, g a = s.heap.get? a) : obsGG n fa ex fn tf g = (hookG n fa ex fn tf).obs s := by
  have e : g = s.heap.get? := funext h
  rw [e] <;> rfl
section
variable {fa : List Fa} {ex : Frag → Bool} {fn : List DefG} {K : Frag}
theorem SaysG.fact (c : SaysG fa ex fn K) (i : Nat) {f : Fa} (h : fa[i]? = some f := by rfl) : f.ok K = true := by
  have c1 := (ba (show ((fa.all fun f => f.ok K) && (ex K && fn.all fun d => d.ok K)) = true from congrArg (fun z : AlG => z.1) c)).1
  exact List.all_eq_true.mp c1 f (List.mem_of_getElem? h)
theorem SaysG.more (c : SaysG fa ex fn K) : ex K = true :=
  (ba (ba (show ((fa.all fun f => f.ok K) && (ex K && fn.all fun d => d.ok K)) = true from congrArg (fun z : AlG => z.1) c)).2).1
theorem SaysG.def_ (c : SaysG fa ex fn K) (i : Nat) {d : DefG} (h : fn[i]? = some d := by rfl) : Stands K d := by
  have c2 := (ba (ba (show ((fa.all fun f => f.ok K) && (ex K && fn.all fun d => d.ok K)) = true from congrArg (fun z : AlG => z.1) c)).2).2
  have e : fn.map (fun d => fnG K (d.ad K)) = fn.map DefG.val := congrArg (fun z : AlG => z.2) c
  have e2 : (fn.map fun d => fnG K (d.ad K))[i]? = (fn.map DefG.val)[i]? := by rw [e]
  rw [List.getElem?_map, List.getElem?_map, h] at e2
  exact DefG.funD (Option.some.inj e2) (List.all_eq_true.mp c2 d (List.mem_of_getElem? h))
end
/-- a property of a class -/
def propB (C f : Str) (K : Frag) : Bool :=
  eqO (PySem.W.findIn K (.ref (ga K C)) f) (some (some (.ref (ma K (ga K C) f)))) &&
  (eqO (PySem.W.specialIn K (.ref (ma K (ga K C) f)) "__get__") (some (some (.builtin "property.__get__"))) &&
  (decide (PySem.W.takesIn K (.ref (ma K (ga K C) f)) = some true) &&
  (match PySem.W.recIn K (ma K (ga K C) f) "property" with
    | some (.ref _ :: _) => true
    | _ => false)))
theorem propB_ok {C f : Str} {K : Frag} (h : propB C f K = true) : PropOf K (ga K C) f (ma K (ga K C) f) (gtA C f K) := by
  unfold propB at h
  obtain ⟨h1, h2⟩ := ba h
  obtain ⟨h2, h3⟩ := ba h2
  obtain ⟨h3, h4⟩ := ba h3
  refine ⟨eqO_ok h1, eqO_ok h2, of_decide_eq_true h3, ?_⟩
  unfold gtA
  cases q : PySem.W.recIn K (ma K (ga K C) f) "property" with
  | none => rw [q] at h4; cases h4
  | some l =>
    rw [q] at h4
    cases l with
    | nil => cases h4
    | cons v r =>
      cases v with
      | ref g => exact ⟨r, rfl⟩
      | _ => cases h4
end Ah

/-! short words: a def that keeps its promise (FnB), calls of it. Room, and no repr is under way (Rm) -/
namespace Ah
open PySem PySem.Spec PyProof.Rows L2 He
structure Rm (k : Nat) (A : Around) : Prop where
  r : Room k A
  g : A.guards = some []
section
variable {j k : Nat} {A : Around}
theorem Rm.mono (h : Rm k A) (hj : j ≤ k) : Rm j A := ⟨h.r.mono hj, h.g⟩
theorem Rm.in1 (h : Rm (k + 1) A) : Rm k A.in1 := ⟨h.r.in1, h.g⟩
theorem Rm.make (h : Rm (k + 1) A) (C : Addr) (us : List Value) (kw : List (Str × Value)) : Rm k (A.under (.builtin "type.__call__" ⟨.ref C :: us, kw⟩)) := by
  refine ⟨h.r.make C us kw, ?_⟩
  show pushGuards (Code.builtin "type.__call__" ⟨.ref C :: us, kw⟩).guards A.guards = some []
  rw [h.g]
  rfl
theorem Rm.hu (h : Rm k A) : A.units + 1 < cLine := hu_of h.r
end
theorem hu0 {A : Around} {k : Nat} (hr : Rm k A) : A.units < cLine := hr.r.units0
theorem hu64 {A : Around} {k : Nat} (hr : Rm k A) : A.units + 64 < cLine := hr.r.units
theorem hu99 {A : Around} {k : Nat} (hr : Rm k A) : A.units + 99 < cLine := by
  have := hr.r.un
  omega
/-- the def at f, called by its positional arguments, keeps the promise sp -/
structure FnB (P : Program) (w : World) (K : Frag) (mg : Str → Option Value) (base : Heap) (k : Nat) (f : Addr) (sp : Sp) : Prop where
  run : ∀ (A : Around) (outer : List Env) (s : Shared) (H : Hp) (us : List Value) (vs : List V) (Q : VK) (E : XK), Rm k A → Env0 P w K mg base A outer s H → Vals vs us → sp vs H Q E →
    codeAny (model P w) A (.call (.ref f) ⟨us, []⟩) (CR (L2.CX P w) outer P w H s Q E) s
  kp : PySem.W.keepIn K (.ref f) = true
section
variable {P : Program} {w : World} {K : Frag} {mg : Str → Option Value} {base : Heap}
theorem FnB.mono {j k : Nat} {f : Addr} {sp : Sp} (F : FnB P w K mg base j f sp) (h : j ≤ k) : FnB P w K mg base k f sp := ⟨fun A outer s H us vs Q E hr => F.run A outer s H us vs Q E (hr.mono h), F.kp⟩
theorem FnB.imp {k : Nat} {f : Addr} {sp sp' : Sp} (F : FnB P w K mg base k f sp) (h : ∀ vs H Q E, sp' vs H Q E → sp vs H Q E) : FnB P w K mg base k f sp' := ⟨fun A outer s H us vs Q E hr e0 r q => F.run A outer s H us vs Q E hr e0 r (h _ _ _ _ q), F.kp⟩
/-- a body that keeps a promise, wherever it is entered with room -/
def BodyB (CX : CXT) (P : Program) (w : World) (K : Frag) (mg : Str → Option Value) (base : Heap) (N : List Str) (d : DefG) (k : Nat) (sp : Sp) : Prop :=
  ∀ (A : Around) (outer : List Env) (s : Shared) (H : Hp) (vs : List V) (Q : VK) (E : XK), Rm k (A.deeper (envOfC d.qual d.scope s.heap.objs.size (d.ad K) (CodeV K (d.ad K)))) → sp vs H Q E →
    ∃ t, PSs (cxOf CX P w K mg base N d.qual d.scope (d.ad K) (CodeV K (d.ad K)) A outer s H E) d.body t ∧ t { nx := fun _ H' => Q .non H', rt := Q } (L2.start N vs) H
/-- how a call of such a def runs, its arguments bound -/
theorem body_run {CX : CXT} {N ps : List Str} {k : Nat} {sp : Sp} {d : DefG} {fd : FuncData} {dvs : List V} {kws : List (Str × V)} (F : FunD K d.name d.qual d.params d.body d.scope dvs kws (d.ad K) fd) (S : FnScope N ps d.scope) (hbody : BodyB CX P w K mg base N d k sp)
    {A : Around} {outer : List Env} {s : Shared} {H : Hp} {args : Args} {us : List Value} {vs : List V} {Q : VK} {E : XK} (hr : Rm (k + 1) A) (e0 : Env0 P w K mg base A outer s H) (hb : BindsTo s fd args (ps.zip us)) (hl : vs.length = ps.length) (r : Vals vs us) (hsp : sp vs H Q E) :
    codeAny (model P w) A (.call (.ref (d.ad K)) args) (CR CX outer P w H s Q E) s := by
  obtain ⟨oc, od, dV, kV, doc, pm, an, cdv, ct, osl, rfl, lk, hcd, _, _⟩ := F.ex
  have KX : K.In s.heap := e0.mod.kin.keeps fun b o e => (e0.bs b o e).1
  have lim : s.heap.NoLimit := e0.mod.nolimit.keeps fun b o e => (e0.bs b o e).1
  have par : ∀ y ∈ ps.zip us, d.scope.names.lookup y.1 = some .local ∨ (d.scope.names.lookup y.1 = some .cell ∧ ((cellsFrom (s.heap.objs.size + 1) d.scope.names []).lookup y.1).isSome = true) := by
    rintro ⟨n, v⟩ hy
    cases S.par n (List.of_mem_zip hy).1 with
    | inl q => exact Or.inl q
    | inr q => exact Or.inr ⟨q, PySem.W.cellsFrom_some _ _ _ (Or.inl q)⟩
  refine codeAny_call_function hr.r.depth (KX _ _ lk) rfl S.co S.gen rfl (PySem.W.codeRec_of KX hcd) (hb _ _ _ _ ?_)
  refine wpAny_newFunctionEnv_cells S.kind par fun env he s1 x => ?_
  subst he
  refine ⟨lim.keeps x.toInCall.keep, codeAny_func ?_⟩
  have ec : CodeV K (d.ad K) = cdv := by
    unfold CodeV
    rw [lk]
  subst ec
  have hr' : Rm k (A.deeper (envOfC d.qual d.scope s.heap.objs.size (d.ad K) (CodeV K (d.ad K)))) := ⟨hr.r.deeper _, hr.g⟩
  obtain ⟨t, ht, hq⟩ := hbody A outer s H vs Q E hr' hsp
  have I := inv_start (CX := CX) (E := E) S hr.r.hd e0 hl r x
  refine wpAny_mono (ht.run [] s1 (L2.start N vs) H _ I hq) (fun fl s' hs => ?_) fun _ _ hs => hs
  cases fl with
  | ret u =>
    obtain ⟨v, _, H', J, rv, q⟩ := hs
    exact ⟨v, H', J.os, J.bare, J.base, J.hok, rv, q⟩
  | next =>
    obtain ⟨_, H', J, q⟩ := hs
    exact ⟨V.non, H', J.os, J.bare, J.base, J.hok, rfl, q⟩
  | brk => exact hs.elim fun _ z => z.elim fun _ z => z.2.elim
  | cont => exact hs.elim fun _ z => z.elim fun _ z => z.2.elim
/-- THE RULE for a def without defaults -/
theorem okD {N ps : List Str} {k : Nat} {sp : Sp} {d : DefG} (S : Stands K d) (h0 : d.dfl = []) (sc : FnScope N ps d.scope) (len : ∀ vs H Q E, sp vs H Q E → vs.length = ps.length)
    (hb : ∀ (kV doc pm : Value) (an : Option Addr) (cdv ct : Value) (us : List Value), us.length = ps.length → bindArgs (PySem.W.fnOf d.name d.qual d.params d.body d.scope .none kV doc pm an cdv ct) ⟨us, []⟩ = pure (ps.zip us))
    (hbody : BodyB (L2.CX P w) P w K mg base N d k sp) : FnB P w K mg base (k + 1) (d.ad K) sp := by
  obtain ⟨fd, F⟩ := S
  have e : d.dvs K = [] := by unfold DefG.dvs; rw [h0]; rfl
  rw [e] at F
  refine ⟨fun A outer s H us vs Q E hr e0 r hsp => ?_, F.kp⟩
  have hl := len _ _ _ _ hsp
  have KX : K.In s.heap := e0.mod.kin.keeps fun b o e => (e0.bs b o e).1
  have b := F.bindsN hb s us KX (by rw [List.append_nil, ← r.length]; exact hl)
  rw [List.append_nil] at b
  exact body_run F sc hbody hr e0 b hl r hsp
end
section
variable {X : Cx} {k j : Nat} {f C : Addr} {sp : Sp} {E : XK} {x m : Str} {e o : Expr} {es : List Expr} {t : TA} {ta : TE} {p pos apos : Pos} {pins : List (Addr × Obj)} {σ : L2.St} {H : Hp} {s : Shared}
/-- the callee runs, at A, at or below the running body -/
theorem runB {A : Around} {Q : VK} {us : List Value} {vs : List V} (F : FnB X.prog X.w X.K X.mg X.base k f sp) (hr : Rm k A) (e0 : Env0 X.prog X.w X.K X.mg X.base A X.stack s H) (hx : Passes (L2.CX X.prog X.w) X E) (I : L2.Inv X pins σ H s) (r : Vals vs us) (h : sp vs H Q E) :
    codeAny (model X.prog X.w) A (.call (.ref f) ⟨us, []⟩) (fun r s' => match r with | .ok (.ret v) => EP X pins σ Q v s' | .ok _ => False | .error e => X.xe e s') s := by
  refine codeAny_mono (F.run A X.stack s H us vs Q E hr e0 r h) fun res s' hq => ?_
  match res, hq with
  | .error e, hq => exact hx pins σ H s e s' I hq
  | .ok (.ret u), hq => exact I.after hq
theorem pe_cF (F : FnB X.prog X.w X.K X.mg X.base k f sp) (hr : Rm j X.A) (hm : X.mg x = some (.ref f)) (hx : Passes (L2.CX X.prog X.w) X E) (ha : PA X (e :: es) t) (hk : k ≤ j := by decide) (hg : Gl X x := by rfl)
    (hdb : (x == ("__debug__" : Str)) = false := by decide) (he : starEach (e :: es) X.env = (false, eval e X.env) :: starEach es X.env := by rfl) (hpl : (backTo pos (starEach es X.env)).any (·.1) = false := by rfl) :
    PE X (.Call (.Name x p) (e :: es) [] pos) (tCall sp [] E t) := by
  refine ⟨fun pins s σ H Q I h => wpAny_Call_Name_kw (ld_glob I hg hm ?_ hdb)⟩
  refine PySem.W.callWith_K (h₀ := X.base) I.ok.mod.kin F.kp (thn (ha.run pos pins s σ H _ I h) fun us s1 ⟨vs, H1, I1, r, q⟩ => ⟨I1.kIn, ?_⟩) he hpl
  simp only [List.append_nil] at q
  exact wpAny_call (runB F (hr.mono hk) I1.env0 hx I1 r q)
theorem pe_cF0 (F : FnB X.prog X.w X.K X.mg X.base k f sp) (hr : Rm j X.A) (hm : X.mg x = some (.ref f)) (hx : Passes (L2.CX X.prog X.w) X E) (hk : k ≤ j := by decide) (hg : Gl X x := by rfl) (hdb : (x == ("__debug__" : Str)) = false := by decide) :
    PE X (.Call (.Name x p) [] [] pos) (tCall sp [] E tNil) := by
  refine ⟨fun pins s σ H Q I h => wpAny_Call_Name_kw (ld_glob I hg hm ?_ hdb)⟩
  exact PySem.W.callWith_K0 (first := []) I.kIn F.kp (wpAny_call (runB (us := []) (vs := []) F (hr.mono hk) I.env0 hx I .nil h))
theorem pe_mkF (M : Mk X.K C f) (F : FnB X.prog X.w X.K X.mg X.base k f sp) (hr : Rm j X.A) (hm : X.mg x = some (.ref C)) (hx : Passes (L2.CX X.prog X.w) X E) (ha : PA X (e :: es) t) (hk : k + 1 ≤ j := by decide) (hg : Gl X x := by rfl)
    (hdb : (x == ("__debug__" : Str)) = false := by decide) (he : starEach (e :: es) X.env = (false, eval e X.env) :: starEach es X.env := by rfl) (hpl : (backTo pos (starEach es X.env)).any (·.1) = false := by rfl) :
    PE X (.Call (.Name x p) (e :: es) [] pos) (tMake C sp [] E t) := by
  refine ⟨fun pins s σ H Q I h => wpAny_Call_Name_kw (ld_glob I hg hm ?_ hdb)⟩
  refine PySem.W.callWith_K (h₀ := X.base) I.ok.mod.kin M.kp (thn (ha.run pos pins s σ H _ I h) fun us s1 ⟨vs, H1, I1, r, q⟩ => ⟨I1.kIn, ?_⟩) he hpl
  have q' := q (s1.heap.objs.size + 1) s1.heap.objs.size (I1.hok.fresh (Nat.le_succ _)) (I1.hok.fresh (Nat.le_refl _)) (Nat.ne_of_lt (Nat.lt_succ_self _))
  rw [List.append_nil] at q'
  have I2 := Inv.made (C := C) I1
  have r2 : Vals (V.ref (s1.heap.objs.size + 1) :: vs) (Value.ref (s1.heap.objs.size + 1) :: us) := .cons rfl r
  refine wpAny_call (make_map (f := f) I1.kIn M.makes M.init (beq_iff_eq.mp M.fn) (codeAny_mono (F.run _ X.stack _ _ _ _ _ E ((hr.mono hk).make C us []) (I2.env0.make C us []) r2 q') fun res s' hq' => ?_))
  match res, hq' with
  | .error e, hq' => exact hx pins σ _ _ e s' I2 hq'
  | .ok (.ret u), hq' =>
    obtain ⟨v, H', I3, rv, ev, q3⟩ := I2.after hq'
    subst ev
    exact ⟨rv, V.ref (s1.heap.objs.size + 1), H', I3, rfl, q3⟩
theorem pe_mtF {pl : Sem Bool} (he : PE X o ta) (c : Cls X.K C) (hm : Meth X.K C m f) (F : FnB X.prog X.w X.K X.mg X.base k f sp) (hr : Rm j X.A) (hx : Passes (L2.CX X.prog X.w) X E) (ha : PA X (e :: es) t) (hk : k ≤ j := by decide)
    (hst : starEach (e :: es) X.env = (false, eval e X.env) :: starEach es X.env := by rfl) (hpl : (backTo pos (starEach es X.env)).any (·.1) = false := by rfl)
    (ht : eval (.Call (.Attribute o m apos) (e :: es) [] pos) X.env = (do
      let ov ← eval o X.env
      standAt apos.atName
      let (f, first) ← holding [ov] (getMethod ov m pl)
      callWith pos f first (backTo pos (starEach (e :: es) X.env)) (backToKw pos (keywordEach [] X.env))) := by rfl) :
    PE X (.Call (.Attribute o m apos) (e :: es) [] pos) (tMeth C m sp [] E ta t) := by
  refine ⟨fun pins s σ H Q I h => PySem.W.methodCall_KW (pl := pl) (thn (he.run pins s σ H _ I h) fun u s1 ⟨x, H1, I1, rx, a, dx, fs, ex, ea, l, q⟩ => ?_) ht⟩
  subst ex
  cases (show u = Value.ref a from rx)
  refine getmeth_ok I1 ea c hm l (PySem.W.callWith_K (first := [.ref a]) (h₀ := X.base) I.ok.mod.kin hm.kp (thn (ha.run pos pins s1 σ H1 _ I1 q) fun us s2 ⟨vs, H2, I2, r, q2⟩ => ⟨I2.kIn, ?_⟩) hst hpl)
  simp only [List.append_nil] at q2
  exact wpAny_call (runB (us := .ref a :: us) (vs := .ref a :: vs) F (hr.mono hk) I2.env0 hx I2 (.cons rfl r) q2)
theorem pe_mtF0 {pl : Sem Bool} (he : PE X o ta) (c : Cls X.K C) (hm : Meth X.K C m f) (F : FnB X.prog X.w X.K X.mg X.base k f sp) (hr : Rm j X.A) (hx : Passes (L2.CX X.prog X.w) X E) (hk : k ≤ j := by decide)
    (ht : eval (.Call (.Attribute o m apos) [] [] pos) X.env = (do
      let ov ← eval o X.env
      standAt apos.atName
      let (f, first) ← holding [ov] (getMethod ov m pl)
      callWith pos f first (backTo pos (starEach [] X.env)) (backToKw pos (keywordEach [] X.env))) := by rfl) :
    PE X (.Call (.Attribute o m apos) [] [] pos) (tMeth C m sp [] E ta tNil) := by
  refine ⟨fun pins s σ H Q I h => PySem.W.methodCall_KW (pl := pl) (thn (he.run pins s σ H _ I h) fun u s1 ⟨x, H1, I1, rx, a, dx, fs, ex, ea, l, q⟩ => ?_) ht⟩
  subst ex
  cases (show u = Value.ref a from rx)
  exact getmeth_ok I1 ea c hm l (PySem.W.callWith_K0 (first := [.ref a]) I1.kIn hm.kp (wpAny_call (runB (us := [.ref a]) (vs := [.ref a]) F (hr.mono hk) I1.env0 hx I1 (.cons rfl .nil) q)))
theorem pe_prF {q : Addr} {y : Str} (he : PE X o ta) (c : Cls X.K C) (hp : PropOf X.K C y q f) (F : FnB X.prog X.w X.K X.mg X.base k f sp) (hr : Rm j X.A) (hx : Passes (L2.CX X.prog X.w) X.nox E) (hk : k + 1 ≤ j := by decide)
    (hab : attributeBase o y X.env (eval o X.env) = eval o X.env := by rfl) : PE X (.Attribute o y pos) (tProp C sp [] E ta) := by
  refine ⟨fun pins s σ H Q I h => attr_of hab (thn (he.run pins s σ H _ I h) fun u s1 ⟨x, H1, I1, rx, a, dx, fs, ex, ea, q⟩ => ?_)⟩
  subst ex
  cases (show u = Value.ref a from rx)
  obtain ⟨mA, O, _⟩ := ins_get I1.hok ea
  obtain ⟨od, J, _⟩ := O.look
  obtain ⟨rest, hrec⟩ := hp.rec_
  have I2 := I1.tok (s1.toks + 1)
  have hc : (PySem.W.clsIn X.K C).isSome = true := by
    obtain ⟨cd, hc, _⟩ := PySem.W.any_some c.hd
    rw [hc]
    rfl
  refine PySem.W.get_bind I1.kIn J (PySem.W.plainGet_of (c.get y)).1 (PySem.W.findObj_data hc hp.at_ hp.get hp.tak) (PySem.W.plainGet_of (c.get y)).2 (wpAny_call (PySem.W.prop_get (s := { s1 with toks := s1.toks + 1 }) I1.kIn hrec ?_))
  refine codeAny_mono (F.run X.A.in1 X.stack { s1 with toks := s1.toks + 1 } H1 [.ref a] [.ref a] Q E (hr.mono hk).in1 I2.env0.in1 (.cons rfl .nil) q) fun res s' hq => ?_
  match res, hq with
  | .error er, hq => exact False.elim (hx pins σ H1 { s1 with toks := s1.toks + 1 } er s' (I2.wish _) hq)
  | .ok (.ret u), hq =>
    obtain ⟨v, H', I3, rv, q3⟩ := I2.after hq
    exact wpAny_of_eq (PySem.W.handedOut_of (handed_of rv)) ⟨v, H', I3, rv, q3⟩
end
/-- a promise of a function of scalars: no heap is touched -/
theorem upd_keep {H : Hp} {a p : Addr} {o o' : HO} (h : H a = some o') (hp : H p = none) : upd H p o a = some o' := by
  rw [upd_ne (ne_of_none h hp)]
  exact h
theorem upd_other {H : Hp} {a p : Addr} {o o' : HO} (hn : a ≠ p) (h : H a = some o') : upd H p o a = some o' := by
  rw [upd_ne hn]
  exact h
theorem Same.upd {H H' : Hp} {p : Addr} {o : HO} (s : Same H H') (hp : H' p = none) : Same H (L2.upd H' p o) := fun b o' e => upd_keep (s b o' e) hp
end Ah

/-! kinds of values, isinstance -/
namespace Ah
open PySem PySem.Spec PyProof.Rows L2 He
/-- what a value is -/
inductive Kn where
  | int (i : Int)
  | bl (b : Bool)
  | str (z : Str)
  | non
  | lst (a : Addr) (xs : List V)
  | tup (a : Addr) (xs : List V)
  | dct (a : Addr) (kvs : List (Key × V))
  | ins (a C : Addr)
def bTys : List String := ["int", "bool", "str", "list", "tuple", "dict"]
/-- a class of the program's own, as isinstance sees its instances -/
structure OwnC (K : Frag) (C : Addr) : Prop where
  cl : Cls K C
  ha : PySem.W.findIn K (.ref C) "__class__" = some (some (.builtin "object.__class__"))
  hn : PySem.W.specialIn K (.builtin "object.__class__") "__get__" = some (some (.builtin "getset_descriptor.__get__"))
  htk : PySem.W.takesIn K (.builtin "object.__class__") = some true
  hm : PySem.W.mroIn K C (.type "object") = some true
  kit : ∀ T ∈ bTys, PySem.W.kitOne K (.ref C) (.type T) = some false
/-- .. as isinstance sees the class -/
structure OwnK (K : Frag) (C : Addr) : Prop where
  kit : ∀ T ∈ ["NoneType", "int", "bool", "str", "list", "tuple", "dict"], PySem.W.kitOne K (.type T) (.ref C) = some false
inductive Is (K : Frag) (H : Hp) : V → Kn → Prop where
  | int (i : Int) : Is K H (.int i) (.int i)
  | bl (b : Bool) : Is K H (.bl b) (.bl b)
  | str (z : Str) : Is K H (.str z) (.str z)
  | non : Is K H .non .non
  | lst {a : Addr} {xs : List V} (e : H a = some (.lst xs)) : Is K H (.ref a) (.lst a xs)
  | tup {a : Addr} {xs : List V} (e : H a = some (.tup xs)) : Is K H (.ref a) (.tup a xs)
  | dct {a : Addr} {kvs : List (Key × V)} (e : H a = some (.dK kvs)) : Is K H (.ref a) (.dct a kvs)
  | ins {a C dx : Addr} {fs : List (Str × V)} (e : H a = some (.ins C dx fs)) (c : OwnC K C) : Is K H (.ref a) (.ins a C)
theorem Is.same {K : Frag} {H H' : Hp} {x : V} {k : Kn} (h : Is K H x k) (s : Same H H') : Is K H' x k := by
  cases h with
  | int i => exact .int i
  | bl b => exact .bl b
  | str z => exact .str z
  | non => exact .non
  | lst e => exact .lst (s _ _ e)
  | tup e => exact .tup (s _ _ e)
  | dct e => exact .dct (s _ _ e)
  | ins e c => exact .ins (s _ _ e) c
def Kn.ty : Kn → Value
  | .int _ => .type "int"
  | .bl _ => .type "bool"
  | .str _ => .type "str"
  | .non => .type "NoneType"
  | .lst _ _ => .type "list"
  | .tup _ _ => .type "tuple"
  | .dct _ _ => .type "dict"
  | .ins _ C => .ref C
def Kn.isT : Kn → String → Bool
  | .int _, T => T == "int"
  | .bl _, T => T == "int" || T == "bool"
  | .str _, T => T == "str"
  | .non, _ => false
  | .lst _ _, T => T == "list"
  | .tup _ _, T => T == "tuple"
  | .dct _ _, T => T == "dict"
  | .ins _ _, _ => false
def Kn.isC : Kn → Addr → Bool
  | .ins _ C, D => decide (C = D)
  | _, _ => false
theorem Is.tyx {K : Frag} {H : Hp} {x : V} {k : Kn} (h : Is K H x k) : TyX K H x k.ty := by
  cases h with
  | int i => exact .base (.int i)
  | bl b => exact .base (.bl b)
  | str z => exact .base (.str z)
  | non => exact .base .non
  | lst e => exact .base (.lst e)
  | tup e => exact .base (.tup e)
  | dct e => exact .base (.dK e)
  | ins e c => exact .base (.ins e c.cl c.ha c.hn c.htk c.hm)
theorem kit6 {K : Frag} {k : String} {r : String → Bool} (h : ∀ T ∈ bTys, kitB k T = some (r T)) : ∀ T ∈ bTys, PySem.W.kitOne K (.type k) (.type T) = some (r T) := fun T hT => kit_ty (h T hT)
theorem Is.kit {K : Frag} {H : Hp} {x : V} {k : Kn} (h : Is K H x k) : ∀ T ∈ bTys, PySem.W.kitOne K k.ty (.type T) = some (k.isT T) := by
  cases h with
  | ins e c => exact c.kit
  | int i => exact kit6 (r := fun T => T == "int") (by decide +kernel)
  | bl i => exact kit6 (r := fun T => T == "int" || T == "bool") (by decide +kernel)
  | str i => exact kit6 (r := fun T => T == "str") (by decide +kernel)
  | non => exact kit6 (r := fun T => false) (by decide +kernel)
  | lst i => exact kit6 (r := fun T => T == "list") (by decide +kernel)
  | tup i => exact kit6 (r := fun T => T == "tuple") (by decide +kernel)
  | dct i => exact kit6 (r := fun T => T == "dict") (by decide +kernel)
/-- isinstance(x, T), T a built-in class -/
theorem isi (T : String) {K : Frag} {H : Hp} {x : V} {k : Kn} {Q : VK} (h : Is K H x k) (q : Q (.bl (k.isT T)) H) (hT : T ∈ bTys := by decide) : rIsi K [x, .ty T] H Q :=
  ⟨x, .ty T, _, _, _, rfl, .ty T, h.tyx, h.kit T hT, q⟩
theorem isiC {K : Frag} {H : Hp} {x : V} {k : Kn} {C : Addr} {Q : VK} (h : Is K H x k) (o : OwnK K C) (hd : ∀ a D, k = .ins a D → D ≠ C → PySem.W.kitOne K (.ref D) (.ref C) = some false) (q : Q (.bl (k.isC C)) H) : rIsi K [x, .ref C] H Q := by
  refine ⟨x, .ref C, k.ty, .ref C, k.isC C, rfl, .own C, h.tyx, ?_, q⟩
  cases h with
  | @ins a D dx fs e c =>
    show PySem.W.kitOne K (.ref D) (.ref C) = some (decide (D = C))
    by_cases z : D = C
    · subst z
      rw [decide_eq_true rfl]
      unfold PySem.W.kitOne
      rw [if_pos (by simp)]
    · rw [decide_eq_false z]
      exact hd a D rfl z
  | int i => exact o.kit _ (by decide)
  | bl i => exact o.kit _ (by decide)
  | str i => exact o.kit _ (by decide)
  | non => exact o.kit _ (by decide)
  | lst i => exact o.kit _ (by decide)
  | tup i => exact o.kit _ (by decide)
  | dct i => exact o.kit _ (by decide)
/-! constants of the module -/
theorem gint {mg : Str → Option Value} {x : Str} {i : Int} (h : ∃ t, mg x = some (.int i t)) : ∃ u, mg x = some u ∧ RelV (.int i) u := by
  obtain ⟨t, h⟩ := h
  exact ⟨_, h, ⟨t, rfl⟩⟩
theorem gstr {mg : Str → Option Value} {x z : Str} (h : ∃ t, mg x = some (.str z t)) : ∃ u, mg x = some u ∧ RelV (.str z) u := by
  obtain ⟨t, h⟩ := h
  exact ⟨_, h, ⟨t, rfl⟩⟩
theorem pe_gc {X : Cx} {x : Str} {pos : Pos} {v : V} (hg : Gl X x) (h : ∃ u, X.mg x = some u ∧ RelV v u) (hd : (x == ("__debug__" : Str)) = false := by decide) : PE X (.Name x pos) (tC v) := by
  obtain ⟨u, hm, r⟩ := h
  exact pe_glob hg hm r hd
theorem pj_nil {X : Cx} : PJ X [] [] := .nil
theorem pj_cons {X : Cx} {e : Expr} {t : TE} {es : List Expr} {ts : List TE} (h : PE X e t) (r : PJ X es ts) : PJ X (e :: es) (t :: ts) := .cons h r
end Ah

/-! numbers and keys: the mathematics -/
namespace Ah
open PySem PySem.Spec PyProof.Rows L2 He
def Kn.within (k : Kn) (a b : Int) : Bool := match k with
  | .int i => decide (a ≤ i) && decide (i ≤ b)
  | _ => false
/-- a sign of a key -/
def keySign (c : Nat) : Bool := (decide (97 ≤ c) && decide (c ≤ 122)) || (decide (48 ≤ c) && decide (c ≤ 57))
def isKeyL (l : List Nat) : Bool := decide (1 ≤ l.length) && decide (l.length ≤ 20) && l.all keySign
def Kn.isKey : Kn → Bool
  | .str z => isKeyL z.cps.toList
  | _ => false
/-- a text within the line -/
def Kn.small : Kn → Prop
  | .str z => z.length ≤ 1000000
  | _ => True
end Ah

/-! own rules: ==, != by an own __eq__, repr by an own __repr__, a call of an instance, text * int -/
namespace Ah
open PySem PySem.Spec PyProof.Rows L2 He
section
variable {X : Cx} {k j : Nat} {f C : Addr} {sp : Sp} {E : XK} {pins : List (Addr × Obj)} {σ : L2.St} {H : Hp} {s : Shared}
theorem looks_kn {x : V} {u : Value} {k : Kn} (I : Inv X pins σ H s) (r : RelV x u) (h : Is X.K H x k) (M : Model) : PySem.W.Looks M s.heap (typeOf u) k.ty := by
  obtain ⟨P, kx, p, _⟩ := kit_of I r h.tyx
  exact kx.ty M s.heap I.kIn p
/-- what == by an own __eq__ asks: x an instance of C, y of any kind, not of a class below C -/
def rEqO (K : Frag) (C : Addr) (sp : Sp) (E : XK) : R2 := fun x y H Q => ∃ a dx fs k, x = .ref a ∧ H a = some (.ins C dx fs) ∧ Is K H y k ∧ PySem.W.notFirst K C k.ty = true ∧ sp [x, y] H (fun z H' => ∃ b, z = .bl b ∧ Q (.bl b) H') E
theorem op_eqO (hm : Meth X.K C "__eq__" f) (F : FnB X.prog X.w X.K X.mg X.base k f sp) (hr : Rm j X.A) (hx : Passes (L2.CX X.prog X.w) X E) (hk : k ≤ j := by decide) : OpR X (compareOp .Eq) (rEqO X.K C sp E) := by
  intro pins s σ H x y v u Q I rx ry h
  obtain ⟨a, dx, fs, kn, rfl, ha, hy, hn, q⟩ := h
  cases (show v = Value.ref a from rx)
  obtain ⟨mA, O, _⟩ := ins_get I.hok ha
  obtain ⟨od, J, _⟩ := O.look
  obtain ⟨m, hF⟩ := I.fr
  refine PySem.W.cmp_K (op := .Eq) (tb := kn.ty) (hu0 hr) hF I.ok.mod.kin J (looks_kn I ry hy _) hn hm.at_ hm.fn ?_
  refine wpAny_mono (wpAny_call (runB (us := [.ref a, u]) (vs := [.ref a, y]) F (hr.mono hk) I.env0 hx I (.cons rfl (.cons ry .nil)) q)) (fun w s' z => ?_) fun _ _ x => x
  obtain ⟨z', H', I', rz, b, eb, qz⟩ := z
  subst eb
  cases (show w = Value.bool b from rz)
  exact ⟨.bl b, H', I', rfl, qz⟩
/-- != by an own __eq__ -/
theorem ne_K {prog : Program} {w : World} {A : Around} {E : Value → Shared → Prop} {s : Shared} {K : Frag} {x C L f : Addr} {h₀ : Heap} {m : Str → Option Value} {ox : Obj} {od : Option Obj} {b tb : Value} {Q : Value → Shared → Prop}
    (hu : A.units + 1 < cLine) (F : Fr h₀ L s.heap m) (X₀ : K.In h₀) (I : PySem.W.InstAt s.heap x ox C od) (hb : PySem.W.Looks (model prog w) s.heap (typeOf b) tb) (hn : PySem.W.notFirst K C tb = true)
    (hne : PySem.W.findIn K (.ref C) "__ne__" = some (some (.builtin "object.__ne__"))) (hcl : PySem.W.excInitIn K C [.type "object"] "object.__new__" = true)
    (hs : PySem.W.findIn K (.ref C) "__eq__" = some (some (.ref f))) (hf : PySem.W.isFn K (.ref f) = true)
    (h : wpAny (model prog w) A.in1 (call (.ref f) [.ref x, b]) (fun v s' => ∃ c, v = .bool c ∧ Q (.bool (!c)) s') E s) : wpAny (model prog w) A (richCompare .NotEq (.ref x) b) Q E s := by
  have X := X₀.keeps F.keep
  have one : wpAny (model prog w) A (tryCompare (.ref x) "__ne__" b) (fun r s' => ∃ v, r = some v ∧ Q v s') E s := by
    unfold tryCompare
    refine wpAny_bind (m := callSpecialIfBound? (.ref x) "__ne__" [b]) ?_
    simp only [callSpecialIfBound?, bindSpecialIfBound?]
    refine wpAny_holding (wpAny_bind (wpAny_bind (wpAny_bind (I.type.here ((PySem.W.looks_findIn X hne).here ?_)))))
    refine wpAny_bind (wpAny_askSetting (wpAny_ite ?_))
    have bnd : bindSpecial (.builtin "object.__ne__") (.ref x) = pure (.builtin "object.__ne__", [.ref x]) := PySem.F.cmp_object.ne.bind _
    have fin : wpAny (model prog w) A (call (.builtin "object.__ne__") ([.ref x] ++ [b]) >>= fun v => pure (some v)) (fun r s' => wpAny (model prog w) A (match r with
        | some .notImplemented | none => pure none
        | some v => pure (some v)) (fun r s' => ∃ v, r = some v ∧ Q v s') E s') E s := by
      refine wpAny_bind (wpAny_call (codeAny_call_builtin PySem.F.cmp_object.ne.plain PySem.F.cmpEntry_ne ?_))
      obtain ⟨nm, N, qn, bs, bm, hdct, sn, sub, ab, col, dd, k0, k1, k2, k3, k5, hC, hbm⟩ := PySem.W.excInit_of X hcl
      have hob : bm.contains (.type "object") = true := by rw [hbm]; decide +kernel
      obtain ⟨hp, gg, dr, tk, os⟩ := s
      refine wpAny_check_slot_inst PySem.F.cmpKind_ne PySem.F.cmpSplit_ne (PySem.F.cmpArgs_ne _ _) hob I.at_ I.cls hC ?_
      unfold Builtin.«object.__ne__»
      repeat (first
        | with_reducible refine wpAny_cRoomFor hu ?_
        | (refine wpAny_bind (m := callSpecialIfBound? (.ref x) (Str.ofString "__eq__") [b])
            (PySem.W.ifBound_K X I hs hf (wpAny_mono h (fun r s' hr => by
              obtain ⟨c, rfl, hq⟩ := hr
              repeat (first | exact ⟨_, rfl, hq⟩ | exact wpAny_pure ⟨_, rfl, hq⟩ | exact wpAny_pure (wpAny_pure ⟨_, rfl, hq⟩) | exact wpAny_truthy_bool hq | (refine wpAny_bind (m := truthy (.bool _)) (wpAny_truthy_bool ?_)) | wp_step)) fun _ _ e => e)))
        | wp_step)
    split
    · simp only [bnd]
      exact wpAny_bind (wpAny_pure (wpAny_pure fin))
    · simp only [bnd]
      exact wpAny_tryCatch (wpAny_bind (wpAny_pure (wpAny_pure fin)))
  unfold richCompare
  simp only [oneThing_ref]
  refine wpAny_holding (wpAny_bind (wpAny_cRoomFor (Nat.lt_of_succ_lt hu) ?_))
  refine wpAny_bind (I.type.here (wpAny_bind (hb.here ?_)))
  split
  · rename_i q
    have e : PySem.W.subIn K tb (.ref C) = some false := by
      rcases Bool.or_eq_true_iff.mp hn with e | e
      · rw [beq_iff_eq.mp e] at q; simp at q
      · exact beq_iff_eq.mp e
    refine wpAny_bind ((PySem.W.looks_subIn X e).here ?_)
    simp only [Bool.false_eq_true, if_false]
    refine wpAny_bind (wpAny_mono one (fun r s' z => ?_) fun _ _ e => e)
    obtain ⟨v, rfl, hq⟩ := z
    exact wpAny_pure hq
  · refine wpAny_bind (wpAny_pure ?_)
    simp only [Bool.false_eq_true, if_false]
    refine wpAny_bind (wpAny_mono one (fun r s' z => ?_) fun _ _ e => e)
    obtain ⟨v, rfl, hq⟩ := z
    exact wpAny_pure hq
/-- the class has no __ne__ of its own -/
structure NoNe (K : Frag) (C : Addr) : Prop where
  ne : PySem.W.findIn K (.ref C) "__ne__" = some (some (.builtin "object.__ne__"))
  cl : PySem.W.excInitIn K C [.type "object"] "object.__new__" = true
def rNeO (K : Frag) (C : Addr) (sp : Sp) (E : XK) : R2 := fun x y H Q => ∃ a dx fs k, x = .ref a ∧ H a = some (.ins C dx fs) ∧ Is K H y k ∧ PySem.W.notFirst K C k.ty = true ∧ sp [x, y] H (fun z H' => ∃ b, z = .bl b ∧ Q (.bl (!b)) H') E
theorem op_neO (hm : Meth X.K C "__eq__" f) (hne : NoNe X.K C) (F : FnB X.prog X.w X.K X.mg X.base k f sp) (hr : Rm j X.A) (hx : Passes (L2.CX X.prog X.w) X E) (hk : k + 1 ≤ j := by decide) : OpR X (compareOp .NotEq) (rNeO X.K C sp E) := by
  intro pins s σ H x y v u Q I rx ry h
  obtain ⟨a, dx, fs, kn, rfl, ha, hy, hn, q⟩ := h
  cases (show v = Value.ref a from rx)
  obtain ⟨mA, O, _⟩ := ins_get I.hok ha
  obtain ⟨od, J, _⟩ := O.look
  obtain ⟨m, hF⟩ := I.fr
  have hr1 : Rm (k + 1) X.A := hr.mono hk
  refine ne_K (tb := kn.ty) hr.hu hF I.ok.mod.kin J (looks_kn I ry hy _) hn hne.ne hne.cl hm.at_ hm.fn ?_
  refine wpAny_mono (wpAny_call (runB (us := [.ref a, u]) (vs := [.ref a, y]) F hr1.in1 I.env0.in1 hx I (.cons rfl (.cons ry .nil)) q)) (fun w s' z => ?_) fun _ _ x => x
  obtain ⟨z', H', I', rz, b, eb, qz⟩ := z
  subst eb
  cases (show w = Value.bool b from rz)
  exact ⟨b, rfl, .bl (!b), H', I', rfl, qz⟩
/-- repr(x), x an instance of C with its own __repr__ -/
def rRepr (C : Addr) (sp : Sp) (E : XK) : List V → Hp → VK → Prop := fun xs H Q => ∃ a dx fs, xs = [.ref a] ∧ H a = some (.ins C dx fs) ∧ sp [.ref a] H (fun z H' => ∃ y, z = .str y ∧ Q (.str y) H') E
theorem call_reprO (hm : Meth X.K C "__repr__" f) (G : FnB X.prog X.w X.K X.mg X.base k f sp) (hr : Rm j X.A) (hx : Passes (L2.CX X.prog X.w) X E) (hk : k + 1 ≤ j := by decide) : CallR X (.builtin "repr") (rRepr C sp E) := by
  intro pins s σ H xs us Q I r h
  obtain ⟨a, dx, fs, rfl, ha, q⟩ := h
  obtain ⟨u, rfl, ru⟩ := r.one
  cases (show u = Value.ref a from ru)
  obtain ⟨mA, O, _⟩ := ins_get I.hok ha
  obtain ⟨od, J, _⟩ := O.look
  have hr1 : Rm (k + 1) X.A := hr.mono hk
  refine Calls.call_function_entry F.kind_repr F.plain_repr F.entry_repr (F.args_repr1 _) ?_
  unfold Builtin.«repr»
  refine wpAny_bind (m := oneArg "repr" _) (wpAny_pure ?_)
  refine wpAny_bind (wpAny_cRoomFor (by exact hr.hu) ?_)
  refine wpAny_bind (wpAny_bind (J.type.here ((PySem.W.looks_findIn I.kIn hm.at_).here ?_)))
  refine wpAny_bind (m := callSpecialIfBound? (.ref a) (Str.ofString "__repr__")) (PySem.W.ifBound_K I.kIn J hm.at_ hm.fn (wpAny_mono (wpAny_call (runB (us := [.ref a]) (vs := [.ref a]) G hr1.in1 I.env0.in1 hx I (.cons rfl .nil) q)) (fun w s' z => ?_) fun _ _ x => x))
  obtain ⟨z', H', I', rz, y, ey, qz⟩ := z
  subst ey
  obtain ⟨t, e⟩ := (show ∃ t, w = Value.str y t from rz)
  subst e
  refine wpAny_bind (wpAny_isInstance (T := "str") (b := true) rfl isSubtype_str_str ?_)
  exact wpAny_pure ⟨_, rfl, .str y, H', I', ⟨t, rfl⟩, qz⟩
/-- f(e, ..), f a slot that holds an instance of C with its own __call__ -/
def tCoF (C : Addr) (sp : Sp) (E : XK) (tf : TE) (t : TA) : TE := fun σ H Q => tf σ H fun y H1 => ∃ a, y = V.ref a ∧ t σ H1 fun vs H2 => (∃ dx fs, H2 a = some (.ins C dx fs)) ∧ sp (V.ref a :: vs) H2 Q E
theorem pe_coF {fe e : Expr} {es : List Expr} {tf : TE} {t : TA} {pos : Pos} (hf : PE X fe tf) (hm : Meth X.K C "__call__" f) (hi : PySem.W.fnIn X.K f = true) (G : FnB X.prog X.w X.K X.mg X.base k f sp) (hr : Rm j X.A) (hx : Passes (L2.CX X.prog X.w) X E) (ha : PA X (e :: es) t) (hk : k ≤ j := by decide)
    (ht : eval (.Call fe (e :: es) [] pos) X.env = (do callWith pos (← eval fe X.env) [] (backTo pos (starEach (e :: es) X.env)) (backToKw pos (keywordEach [] X.env))) := by rfl)
    (he : starEach (e :: es) X.env = (false, eval e X.env) :: starEach es X.env := by rfl) (hpl : (backTo pos (starEach es X.env)).any (·.1) = false := by rfl) : PE X (.Call fe (e :: es) [] pos) (tCoF C sp E tf t) := by
  refine ⟨fun pins s σ H Q I h => ?_⟩
  refine Call_ (thn (hf.run pins s σ H _ I h) fun u s1 ⟨y, H1, I1, ry, a, ey, q⟩ => ?_) ht
  subst ey
  cases (show u = Value.ref a from ry)
  refine StX.callO_with (thn (ha.run pos pins s1 σ H1 _ I1 q) fun us s2 ⟨vs, H2, I2, r, ⟨dx, fs, hi2⟩, q2⟩ => ?_) he hpl
  obtain ⟨ox, od, J, hd⟩ := StX.insC_at (C := C) I2 (.inr ⟨dx, fs, hi2⟩)
  exact ⟨⟨C, ox, od, J, hd⟩, wpAny_call (PySem.W.kco_code I2.kIn J hd hm.at_ hm.fn hi (runB (us := .ref a :: us) (vs := .ref a :: vs) G (hr.mono hk) I2.env0 hx I2 (.cons rfl r) q2))⟩
/-- text * int -/
def rMulS : R2 := fun x y H Q => ∃ (z : Str) (n : Nat), x = .str z ∧ y = .int n ∧ z.length * n ≤ 1000000 ∧ z.length ≤ 1000000 ∧ n ≤ 1000000 ∧ Q (.str (Txt.mul z n)) H
theorem op_rep_str : OpR X (binaryOp .Mult) rMulS := by
  intro pins s σ H x y v u Q I rx ry h
  obtain ⟨z, n, rfl, rfl, h1, h2, h3, q⟩ := h
  obtain ⟨t, e⟩ := (show ∃ t, v = Value.str z t from rx)
  obtain ⟨t', e'⟩ := (show ∃ t, u = Value.int n t from ry)
  subst e
  subst e'
  refine SB.mul ⟨?_, ?_, ?_⟩ fun t' k => ⟨.str _, H, I.tok _, ⟨_, rfl⟩, q⟩
  · have a1 : ¬ ((n : Int) < -(2 ^ 63 : Int)) := by omega
    have a2 : ¬ ((n : Int) ≥ 2 ^ 63) := by omega
    rw [decide_eq_false a1, decide_eq_false a2]
    rfl
  · intro _ _ hgt
    have h4 : (1000000 : Int) ≤ (2 ^ 63 - 1) / (n : Int) := by
      refine Int.le_ediv_of_mul_le (by omega) ?_
      have : (1000000 : Int) * n ≤ 1000000 * 1000000 := Int.mul_le_mul_of_nonneg_left (by omega) (by omega)
      omega
    omega
  · intro _ _
    show decide (z.length * (n : Int).toNat > sizeLine) = false
    rw [Int.toNat_natCast]
    exact decide_eq_false (by rw [sizeLine_eq]; omega)
end
end Ah

/-! more facts for the head -/
namespace Ah
open PySem PySem.Spec PyProof.Rows L2 He
def all7 : List String := ["NoneType", "int", "bool", "str", "list", "tuple", "dict"]
def ownCB (C : Str) (K : Frag) : Bool :=
  eqO (PySem.W.findIn K (.ref (ga K C)) "__class__") (some (some (.builtin "object.__class__"))) &&
  (eqO (PySem.W.specialIn K (.builtin "object.__class__") "__get__") (some (some (.builtin "getset_descriptor.__get__"))) &&
  (decide (PySem.W.takesIn K (.builtin "object.__class__") = some true) && (decide (PySem.W.mroIn K (ga K C) (.type "object") = some true) &&
  (bTys.all fun T => decide (PySem.W.kitOne K (.ref (ga K C)) (.type T) = some false)))))
theorem ownC_ok {C : Str} {K : Frag} (c : Cls K (ga K C)) (h : ownCB C K = true) : OwnC K (ga K C) := by
  unfold ownCB at h
  obtain ⟨h1, h⟩ := ba h
  obtain ⟨h2, h⟩ := ba h
  obtain ⟨h3, h⟩ := ba h
  obtain ⟨h4, h⟩ := ba h
  exact ⟨c, eqO_ok h1, eqO_ok h2, of_decide_eq_true h3, of_decide_eq_true h4, fun T hT => of_decide_eq_true (List.all_eq_true.mp h T hT)⟩
def ownKB (C : Str) (K : Frag) : Bool := all7.all fun T => decide (PySem.W.kitOne K (.type T) (.ref (ga K C)) = some false)
theorem ownK_ok {C : Str} {K : Frag} (h : ownKB C K = true) : OwnK K (ga K C) := ⟨fun T hT => of_decide_eq_true (List.all_eq_true.mp h T hT)⟩
def firstB (C : Str) (K : Frag) : Bool := all7.all fun T => PySem.W.notFirst K (ga K C) (.type T)
theorem first_ok {C : Str} {K : Frag} (h : firstB C K = true) : ∀ T ∈ all7, PySem.W.notFirst K (ga K C) (.type T) = true := fun T hT => List.all_eq_true.mp h T hT
def noNeB (C : Str) (K : Frag) : Bool := eqO (PySem.W.findIn K (.ref (ga K C)) "__ne__") (some (some (.builtin "object.__ne__"))) && PySem.W.excInitIn K (ga K C) [.type "object"] "object.__new__"
theorem noNe_ok {C : Str} {K : Frag} (h : noNeB C K = true) : NoNe K (ga K C) := by
  obtain ⟨h1, h2⟩ := ba h
  exact ⟨eqO_ok h1, h2⟩
def fnInB (C m : Str) (K : Frag) : Bool := PySem.W.fnIn K (ma K (ga K C) m)
/-- a value that is no instance, or one of the class C itself, does not come first in a comparison with an instance of C -/
theorem first_of {K : Frag} {H : Hp} {C : Addr} {x : V} {k : Kn} (hf : ∀ T ∈ all7, PySem.W.notFirst K C (.type T) = true) (h : Is K H x k) (hC : ∀ a D, k = .ins a D → D = C) : PySem.W.notFirst K C k.ty = true := by
  cases h with
  | @ins a D dx fs e c =>
    cases hC a D rfl
    simp [Kn.ty, PySem.W.notFirst]
  | int i => exact hf _ (by decide)
  | bl i => exact hf _ (by decide)
  | str i => exact hf _ (by decide)
  | non => exact hf _ (by decide)
  | lst i => exact hf _ (by decide)
  | tup i => exact hf _ (by decide)
  | dct i => exact hf _ (by decide)
/-! heaps -/
/-- all but a stands as it stood -/
def Ex (a : Addr) (H H' : Hp) : Prop := ∀ b o, b ≠ a → H b = some o → H' b = some o
theorem Ex.refl {a : Addr} {H : Hp} : Ex a H H := fun _ _ _ h => h
theorem Ex.of_same {a : Addr} {H H' : Hp} (s : Same H H') : Ex a H H' := fun b o _ h => s b o h
theorem Ex.trans {a : Addr} {H H1 H2 : Hp} (x : Ex a H H1) (y : Ex a H1 H2) : Ex a H H2 := fun b o n h => y b o n (x b o n h)
theorem Ex.upd {a : Addr} {H H' : Hp} {o : HO} (x : Ex a H H') : Ex a H (L2.upd H' a o) := fun b o' n h => by
  rw [upd_ne n]
  exact x b o' n h
theorem Ex.new {a p : Addr} {H H' : Hp} {o : HO} (x : Ex a H H') (hp : H' p = none) : Ex a H (L2.upd H' p o) := fun b o' n h => upd_keep (x b o' n h) hp
/-- a new place stays new behind -/
theorem Ex.same_free {a : Addr} {H H1 H2 : Hp} (s : Same H H1) (ha : H a = none) (x : Ex a H1 H2) : Same H H2 := fun b o h => x b o (ne_of_none h ha) (s b o h)
end Ah

/-! comprehensions and loops -/
namespace Ah
open PySem PySem.Spec PyProof.Rows L2 He
theorem range_map_succ {α : Type} (f : Nat → α) (n : Nat) : (List.range (n + 1)).map f = (List.range n).map f ++ [f n] := by
  rw [List.range_succ, List.map_append]
  rfl
/-- a comprehension whose element hands back a value and changes nothing that stood: [f 0, .., f (n - 1)] -/
theorem lc_pure {J : It} {n : Nat} {G : Hp → Prop} {Y : Nat → Hp → V → Hp → Prop} (w : Walk J n G Y) {k : Nat} {te : TE} {vs : List Nat} {σ : L2.St} {H1 : Hp} {Qd : Hp → Prop} {D : Addr} (f it : Nat → V) (hn : n ≤ 1000000) (hD : H1 D = none)
    (hG : ∀ H', Same H1 H' → G H') (hY : ∀ i H x H', i < n → Y i H x H' → H' = H ∧ x = it i) (hw : ∀ i, wipe ((wipe σ vs).set k (some (it i))) vs = wipe σ vs)
    (he : ∀ i, i < n → ∀ H' Q', Same H1 H' → (∀ H'', Same H' H'' → Q' (f i) H'') → te ((wipe σ vs).set k (some (it i))) H' Q')
    (hq : ∀ H', Same H1 H' → H' D = some (.lst ((List.range n).map f)) → Qd H') :
    ∃ W : Nat → Nat → Hp → Prop, (∃ m, W 0 m (upd H1 D (.lst []))) ∧ ∀ i m H, W i m H →
      (J.stop i H ∧ Qd H) ∨ (J.go i H ∧ ∃ Nx : Hp → Prop, (∀ H', Nx H' → ∃ m', m' < m ∧ W (i + 1) m' H') ∧ ∀ x H', J.yld i H x H' → gName k x (wipe σ vs) H' fun σ2 H2 => wipe σ2 vs = wipe σ vs ∧ tYes σ2 H2 fun b H3 =>
        if b = true then te σ2 H3 fun y H4 => ∃ acc, H4 D = some (.lst acc) ∧ acc.length < sizeLine ∧ Nx (upd H4 D (.lst (acc ++ [y]))) else Nx H3) := by
  refine lc_it w (fun i H' => Same H1 H' ∧ H' D = some (.lst ((List.range i).map f))) ⟨fun b o e => upd_keep e hD, upd_same⟩ (fun i H' _ p => hG H' p.1) ?_ fun H' p => hq H' p.1 p.2
  intro i x H H' hi p y
  obtain ⟨rfl, rfl⟩ := hY i H x H' hi y
  refine ⟨hw i, ?_⟩
  dsimp only [tYes]
  rw [if_pos rfl]
  refine he i hi _ _ p.1 fun H'' s => ⟨_, s _ _ p.2, ?_, ?_, ?_⟩
  · rw [List.length_map, List.length_range, sizeLine_eq]
    omega
  · intro b o e
    rw [upd_ne (ne_of_none e hD)]
    exact s b o (p.1 b o e)
  · rw [upd_same, range_map_succ]
theorem yStr {z : Str} (i : Nat) (H : Hp) (x : V) (H' : Hp) (y : H' = H ∧ ∃ c, z.cps[i]? = some c ∧ x = .str ⟨#[c]⟩) : H' = H ∧ x = .str ⟨#[z.cps.toList.getD i 0]⟩ := by
  obtain ⟨e, c, hc, rfl⟩ := y
  refine ⟨e, ?_⟩
  have : z.cps.toList[i]? = some c := by simpa using hc
  rw [List.getD_eq_getElem?_getD, this]
  rfl
theorem map_getD_range {α β : Type} (l : List α) (d : α) (g : α → β) : (List.range l.length).map (fun i => g (l.getD i d)) = l.map g := by
  apply List.ext_getElem?
  intro i
  rw [List.getElem?_map, List.getElem?_map]
  by_cases h : i < l.length
  · rw [List.getElem?_range h]
    simp [List.getD_eq_getElem?_getD, h]
  · simp [h]
/-- a new list of values: the walk over a text -/
theorem cps_len (z : Str) : z.cps.size = z.cps.toList.length := by simp
end Ah
namespace Ah
open PySem PySem.Spec PyProof.Rows L2 He
/-! keys -/
def chars : Str := "abcdefghijklmnopqrstuvwxyz0123456789"
def charsL : List Nat := [97, 98, 99, 100, 101, 102, 103, 104, 105, 106, 107, 108, 109, 110, 111, 112, 113, 114, 115, 116, 117, 118, 119, 120, 121, 122, 48, 49, 50, 51, 52, 53, 54, 55, 56, 57]
theorem chars_eq : chars.cps.toList = charsL := by decide +kernel
theorem charsL_small : ∀ c, c < 128 → decide (c ∈ charsL) = keySign c := by decide +kernel
theorem charsL_max : ∀ c ∈ charsL, c < 128 := by decide +kernel
theorem chars_mem (c : Nat) : decide (c ∈ chars.cps.toList) = keySign c := by
  rw [chars_eq]
  by_cases h : c < 128
  · exact charsL_small c h
  · rw [decide_eq_false fun z => h (charsL_max c z)]
    unfold keySign
    rw [decide_eq_false (by omega : ¬ c ≤ 122), decide_eq_false (by omega : ¬ c ≤ 57)]
    simp
theorem str_len (z : Str) : z.length = z.cps.toList.length := by simp [Str.length]
/-- the mix of a key -/
def mixL (b n : Int) (l : List Nat) : Int := l.foldl (fun (h : Int) (c : Nat) => (h * b + (c : Int)) % 2 ^ n.toNat) 0
theorem mixL_snoc (b n : Int) (l : List Nat) (c : Nat) : mixL b n (l ++ [c]) = (mixL b n l * b + (c : Int)) % 2 ^ n.toNat := by
  unfold mixL
  rw [List.foldl_append]
  rfl
theorem pow_pos2 (n : Nat) : (0 : Int) < 2 ^ n := by
  have h : (0 : Int) < ((2 ^ n : Nat) : Int) := Int.natCast_pos.mpr (Nat.two_pow_pos n)
  rw [Int.natCast_pow] at h
  exact h
theorem mixL_range (b n : Int) (l : List Nat) : 0 ≤ mixL b n l ∧ mixL b n l < 2 ^ n.toNat := by
  rcases List.eq_nil_or_concat l with h | ⟨m, c, h⟩
  · subst h
    exact ⟨Int.le_refl 0, pow_pos2 _⟩
  · rw [List.concat_eq_append] at h
    subst h
    rw [mixL_snoc]
    exact ⟨Int.emod_nonneg _ (Int.ne_of_gt (pow_pos2 _)), Int.emod_lt_of_pos _ (pow_pos2 _)⟩
theorem pow32 {n : Int} (h : n ≤ 32) : (2 : Int) ^ n.toNat ≤ 4294967296 := by
  have h1 : n.toNat ≤ 32 := by omega
  have h2 : (2 ^ n.toNat : Nat) ≤ 2 ^ 32 := Nat.pow_le_pow_right (by decide) h1
  have h3 : ((2 ^ n.toNat : Nat) : Int) ≤ ((2 ^ 32 : Nat) : Int) := Int.ofNat_le.mpr h2
  rw [Int.natCast_pow] at h3
  exact h3
theorem take_more {α : Type} {l : List α} {i : Nat} {x : α} (h : l[i]? = some x) : l.take (i + 1) = l.take i ++ [x] := by
  rw [List.take_succ, h]
  rfl
theorem key_small {z : Str} (h : isKeyL z.cps.toList = true) : (Kn.str z).small := by
  unfold isKeyL at h
  show z.length ≤ 1000000
  rw [str_len]
  simp at h
  rw [Array.length_toList]
  omega
end Ah

/-! fields, pools -/
namespace Ah
open PySem PySem.Spec PyProof.Rows L2 He
theorem look0 {f : Str} {v : V} {r : List (Str × V)} : List.lookup f ((f, v) :: r) = some v := by simp [List.lookup]
theorem lookS {f g : Str} {w : V} {r : List (Str × V)} (h : f ≠ g) : List.lookup f ((g, w) :: r) = List.lookup f r := by
  have e : (f == g) = false := by simpa using h
  simp [List.lookup, e]
theorem putF0 {f : Str} {v : V} : putF f v [] = [(f, v)] := rfl
theorem putF_hit {f : Str} {v w : V} {r : List (Str × V)} : putF f v ((f, w) :: r) = (f, v) :: r := by
  show (if f = f then _ else _) = _
  rw [if_pos rfl]
theorem putFS {f g : Str} {v w : V} {r : List (Str × V)} (h : g ≠ f) : putF f v ((g, w) :: r) = (g, w) :: putF f v r := by
  show (if g = f then _ else _) = _
  rw [if_neg h]
end Ah
namespace Ah
open PySem PySem.Spec PyProof.Rows L2 He
theorem ixL {K : Frag} {H : Hp} {a : Addr} {xs : List V} {i : Int} {v : V} {Q : VK} (h : SqL K H a xs) (e : atI xs i = some v) (q : Q v H) : rIxL K (.ref a) (.int i) H Q := ⟨a, xs, i, v, rfl, rfl, h, e, q⟩
theorem ixT {K : Frag} {H : Hp} {a : Addr} {xs : List V} {i : Int} {v : V} {Q : VK} (h : SqT K H a xs) (e : atI xs i = some v) (q : Q v H) : rIxT K (.ref a) (.int i) H Q := ⟨a, xs, i, v, rfl, rfl, h, e, q⟩
theorem setL {H : Hp} {a : Addr} {xs : List V} {i : Int} {j : Nat} {v : V} {Q : Hp → Prop} (h : H a = some (.lst xs)) (e : ixN xs.length i = some j) (q : Q (upd H a (.lst (xs.set j v)))) : rSetL (.ref a) (.int i) v H Q := ⟨a, xs, i, j, rfl, rfl, h, e, q⟩
theorem head_int (l : List Int) : ∃ i, atI (l.map V.int ++ [V.int 0]) 0 = some (V.int i) := by
  cases l with
  | nil => exact ⟨0, rfl⟩
  | cons x r =>
    refine ⟨x, ?_⟩
    unfold atI
    have e : ixN ((List.map V.int (x :: r) ++ [V.int 0]).length) 0 = some 0 := by
      simp [ixN]
      omega
    rw [e]
    rfl
theorem cutV_int (l : List Int) (lo hi : Option Int) : ∃ l' : List Int, cutV (l.map V.int) lo hi = l'.map V.int ∧ l'.length ≤ l.length := by
  refine ⟨(l.drop (HT.sIx (l.map V.int).length 0 lo)).take (HT.sIx (l.map V.int).length (l.map V.int).length hi - HT.sIx (l.map V.int).length 0 lo), ?_, ?_⟩
  · unfold cutV
    rw [List.map_take, List.map_drop]
  · rw [List.length_take, List.length_drop]
    omega
end Ah

/-! data compared -/
namespace Ah
open PySem PySem.Spec PyProof.Rows L2 He
theorem neD_same {K : Frag} {H : Hp} {x y : V} {Q : VK} (d : PyData) (hx : Dp K H x d) (hy : Dp K H y d) (hs : SeqAt.shaped d = true) (q : Q (.bl false) H) : rNeD K x y H Q := by
  refine ⟨d, d, hx, hy, hs, hs, ?_⟩
  rw [SeqAt.eqv_refl d (SeqAt.canLay_of_shaped hs)]
  exact q
theorem eqD_same {K : Frag} {H : Hp} {x y : V} {Q : VK} (d : PyData) (hx : Dp K H x d) (hy : Dp K H y d) (hs : SeqAt.shaped d = true) (q : Q (.bl true) H) : rEqD K x y H Q := by
  refine ⟨d, d, hx, hy, hs, hs, ?_⟩
  rw [SeqAt.eqv_refl d (SeqAt.canLay_of_shaped hs)]
  exact q
theorem dpInts {K : Frag} {H : Hp} : ∀ ns : List Int, DpAll K H (ns.map V.int) (ns.map PyData.int)
  | [] => .nil
  | n :: r => .cons (.int n) (dpInts r)
theorem shaped_ints (ns : List Int) : SeqAt.shaped (.list (ns.map PyData.int)) = true := by
  have h1 : ∀ ns : List Int, PyData.canLayAll0 (ns.map PyData.int) = true := by
    intro ns
    induction ns with
    | nil => rfl
    | cons n r ih => exact Bool.and_eq_true_iff.mpr ⟨rfl, ih⟩
  have h2 : ∀ ns : List Int, PyData.depthAll (ns.map PyData.int) = 0 := by
    intro ns
    induction ns with
    | nil => rfl
    | cons n r ih =>
      show max 0 (PyData.depthAll (r.map PyData.int)) = 0
      rw [ih]
      rfl
  refine Bool.and_eq_true_iff.mpr ⟨h1 ns, decide_eq_true ?_⟩
  show PyData.depthAll (ns.map PyData.int) + 1 ≤ 64
  rw [h2]
  decide
/-- two lists of the same ints -/
theorem neInts {K : Frag} {H : Hp} {p r : Addr} {Q : VK} (ns : List Int) (h1 : H p = some (.lst (ns.map V.int))) (h2 : H r = some (.lst (ns.map V.int))) (q : Q (.bl false) H) : rNeD K (.ref p) (.ref r) H Q :=
  neD_same (.list (ns.map PyData.int)) (.lst (SqL.of h1) (dpInts ns)) (.lst (SqL.of h2) (dpInts ns)) (shaped_ints ns) q
theorem strOk_key {z : Str} (h : isKeyL z.cps.toList = true) : PyData.strOk z = true := by
  unfold isKeyL at h
  have h3 := (Bool.and_eq_true_iff.mp h).2
  unfold PyData.strOk
  rw [← Array.all_toList]
  refine List.all_eq_true.mpr fun c hc => ?_
  have := List.all_eq_true.mp h3 c hc
  unfold keySign at this
  simp at this
  exact decide_eq_true (by omega)
/-- two tuples of one int and one text -/
theorem nePlace {K : Frag} {H : Hp} {p r : Addr} {Q : VK} {i : Int} {z : Str} (hz : PyData.strOk z = true) (h1 : H p = some (.tup [.int i, .str z])) (h2 : H r = some (.tup [.int i, .str z])) (q : Q (.bl false) H) : rNeD K (.ref p) (.ref r) H Q := by
  refine neD_same (.tuple [.int i, .str z]) (.tup (SqT.of h1) (.cons (.int i) (.cons (.str z) .nil))) (.tup (SqT.of h2) (.cons (.int i) (.cons (.str z) .nil))) ?_ q
  refine Bool.and_eq_true_iff.mpr ⟨?_, decide_eq_true (show max 0 (max 0 0) + 1 ≤ 64 by decide)⟩
  show (true && (PyData.strOk z && true)) = true
  rw [hz]
  rfl
end Ah
namespace Ah
open PySem PySem.Spec PyProof.Rows L2 He
theorem iteF' {c : Bool} {A B : Prop} (h : c = false) (hb : B) : if c = true then A else B := by
  rw [h]
  exact iteF hb
theorem iteT' {c : Bool} {A B : Prop} (h : c = true) (ha : A) : if c = true then A else B := by
  rw [h]
  exact iteT ha
/-- a pool of a law: a list of two ints -/
def PoolAt (H : Hp) (a : Addr) : Prop := ∃ p q : Int, H a = some (.lst [.int p, .int q])
theorem PoolAt.same {H H' : Hp} {a : Addr} (h : PoolAt H a) (s : Same H H') : PoolAt H' a := by
  obtain ⟨p, q, h⟩ := h
  exact ⟨p, q, s _ _ h⟩
theorem PoolAt.ne {H : Hp} {a b : Addr} (h : PoolAt H a) (hb : H b = none) : b ≠ a := by
  obtain ⟨p, q, h⟩ := h
  exact (ne_of_none h hb).symm
theorem tl_app (x y : Str) : (x ++ y).cps.toList = x.cps.toList ++ y.cps.toList := TL.tl_append x y
theorem notKey_snoc {x y : Str} {c : Nat} (h : y.cps.toList = [c]) (hc : keySign c = false) : isKeyL (x ++ y).cps.toList = false := by
  rw [tl_app, h]
  unfold isKeyL
  rw [List.all_append]
  have : ([c].all keySign) = false := by simp [hc]
  rw [this]
  simp
theorem notKey_long {x y : Str} (h : 20 ≤ y.cps.toList.length) (hx : 1 ≤ x.cps.toList.length) : isKeyL (x ++ y).cps.toList = false := by
  rw [tl_app]
  unfold isKeyL
  rw [decide_eq_false (p := (x.cps.toList ++ y.cps.toList).length ≤ 20) (by rw [List.length_append]; omega)]
  simp
theorem key_len {l : List Nat} (h : isKeyL l = true) : 1 ≤ l.length ∧ l.length ≤ 20 := by
  unfold isKeyL at h
  simp at h
  omega
theorem slice_to_len (z : Str) (n : Nat) : (Txt.slice z none (some (n : Int))).length ≤ z.length := by
  have e : z = SX.S z.cps.toList := (SX.S_tl z).symm
  rw [e, SX.slice_to (Int.natCast_nonneg n), SX.S_len, SX.S_len, List.length_take]
  omega
theorem str_small {z : Str} {n : Nat} (h : z.length ≤ n) (hn : n ≤ 1000000) : (Kn.str z).small := Nat.le_trans h hn
end Ah

/-! own exceptions over one of four built-in ones -/
namespace Ah
open PySem PySem.Spec PyProof.Rows L2 He
inductive EB where
  | ve | le | re | oe
def EB.nm : EB → String
  | .ve => "ValueError" | .le => "LookupError" | .re => "RuntimeError" | .oe => "OverflowError"
def EB.nw : EB → String
  | .ve => "ValueError.__new__" | .le => "LookupError.__new__" | .re => "RuntimeError.__new__" | .oe => "OverflowError.__new__"
def EB.it : EB → String
  | .ve => "ValueError.__init__" | .le => "LookupError.__init__" | .re => "RuntimeError.__init__" | .oe => "OverflowError.__init__"
def EB.tl : EB → List Value
  | .ve => [.type "ValueError", .type "Exception", .type "BaseException", .type "object"]
  | .le => [.type "LookupError", .type "Exception", .type "BaseException", .type "object"]
  | .re => [.type "RuntimeError", .type "Exception", .type "BaseException", .type "object"]
  | .oe => [.type "OverflowError", .type "ArithmeticError", .type "Exception", .type "BaseException", .type "object"]
theorem EB.base (b : EB) : ExcBaseFacts b.nm b.nw b.it b.tl := by
  cases b
  · exact F.excBase_ValueError
  · exact F.excBase_LookupError
  · exact F.excBase_RuntimeError
  · exact F.excBase_OverflowError
theorem EB.store (b : EB) : StoreFacts b.nm b.tl "object.__setattr__" "object" := by
  cases b
  · exact F.store_ValueError
  · exact F.store_LookupError
  · exact F.store_RuntimeError
  · exact F.store_OverflowError
/-- what the written part says of such a class -/
structure OexG (K : Frag) (C : Addr) : Prop where
  cls : ∃ (b : EB) (nm q : Str) (N : Addr) (bs : List Value) (sn : List Str) (sub : List Value) (ab : Bool) (col : Option Bool) (dd : Option Addr) (k0 k1 k2 k3 k5 : Option Value), K.lookup C = some (excClassObj nm q C N bs b.tl true sn sub ab col dd k0 k1 k2 k3 k5 b.nw)
  sa : PySem.W.findIn K (.ref C) "__setattr__" = some (some (.builtin "object.__setattr__"))
  exC : PySem.W.subIn K (.ref C) (.type "BaseException") = some true
  tyC : PySem.W.typeIn K (.ref C) = some (.type "type")
  kC : PySem.W.keepIn K (.ref C) = true
theorem tail_self (b : EB) : PySem.W.excTail b.tl b.tl = true := by cases b <;> decide +kernel
section
variable {K : Frag} {C : Addr}
theorem OexG.over (T : OexG K C) : ∃ b : EB, PySem.W.excOver K C b.tl = true ∧ ∃ cd, PySem.W.clsIn K C = some cd ∧ cd.hasDict = true := by
  obtain ⟨b, nm, q, N, bs, sn, sub, ab, col, dd, k0, k1, k2, k3, k5, hC⟩ := T.cls
  have hcl : PySem.W.clsIn K C = some { name := nm, bases := bs, mro := .ref C :: b.tl, ns := N, qualname := q, hasDict := true, slotNames := sn, subclasses := sub, abstract := ab, collection := col, hasDel := false } := by
    unfold PySem.W.clsIn
    rw [hC] <;> rfl
  refine ⟨b, ?_, _, hcl, rfl⟩
  unfold PySem.W.excOver
  rw [hcl]
  show (C == C && PySem.W.excTail b.tl b.tl) = true
  rw [tail_self b]
  simp
end
section
variable {prog : Program} {w : World} {A : Around} {hp : Heap} {g : Array GenState} {d : Drawn} {t : Nat} {os : OsState} {R : Result → Shared → Prop}
/-- the first field: the dict is laid -/
theorem osaN {K : Frag} {name : Str} {tk : Tok} {v : Value} {x C : Addr} {fv : Array Value} (T : OexG K C) (X : K.In hp) (hx : hp.get? x = some { cls := .ref C, data := .fields fv }) (ha : PySem.W.findIn K (.ref C) name = some none)
    (hq : ∀ h' tk' dx, (∀ b o, b ≠ x → hp.get? b = some o → h'.get? b = some o) → hp.objs.size ≤ dx → dx ≠ x → h'.get? x = some { cls := .ref C, dict := some dx, data := .fields fv } →
      h'.Ns1 dx (fun y => if y = name then some v else none) → R (.ok (.ret .none)) ⟨h', g, d, tk', os⟩) :
    codeAny (model prog w) A (.call (.builtin "object.__setattr__") ⟨[.ref x, .str name tk, v], []⟩) R ⟨hp, g, d, t, os⟩ := by
  obtain ⟨b, ho, cd, hcd, hh⟩ := T.over
  have hxs : x ≠ hp.objs.size := Nat.ne_of_lt (Heap.lt_size hx)
  refine PySem.W.osa_openX (s := ⟨hp, g, d, t, os⟩) (od := none) (r := none) b.store X ⟨hx, rfl, rfl, trivial⟩ ho (by unfold PySem.W.takerIn; rw [ha]; rfl) fun bb => ?_
  have hcls : PySem.W.Looks (model prog w) hp (classData C) cd := PySem.W.looks_clsIn X hcd
  dsimp only
  obtain ⟨nm, bs, mro, ns, qn, hd, sn, sb, ab, col, del⟩ := cd
  dsimp only at hh
  subst hh
  unfold PySem.Builtin.ObjectAttr.storeInOwnDict PySem.Builtin.ObjectAttr.ownDictForStores
  repeat (first | with_reducible refine PySem.HandSPX.store_in_new ?_ ?_ | with_reducible refine wpAny_loadPart_at hx ?_ | with_reducible refine hcls.at ?_ | wp_step)
  · exact ⟨_, #[], _, (Heap.get?_update_ne _ _ _ _ hxs.symm).trans (Heap.get?_push_at rfl rfl), rfl, fun e he => absurd he (by simp), fun _ => rfl⟩
  · intro h' tk' hn' hs
    have hx₁ : (hp.push { cls := .type "dict", data := .dict #[] }).get? x = some { cls := .ref C, data := .fields fv } := Heap.get?_push_of_some _ hx
    refine hq h' tk' hp.objs.size (fun b o hb ho => ?_) (Nat.le_refl _) hxs.symm ?_ hn'
    · exact (hs.2 b (Nat.ne_of_lt (Heap.lt_size ho))).trans ((Heap.get?_update_ne _ _ _ _ hb).trans (Heap.get?_push_of_some _ ho))
    · exact (hs.2 x hxs).trans (Heap.get?_update_self _ hx₁ rfl)
/-- a further field -/
theorem osaO {K : Frag} {name : Str} {tk : Tok} {v : Value} {x C dx : Addr} {fv : Array Value} {m0 : Str → Option Value} {nl : List Str} (T : OexG K C)
    (X : K.In hp) (hx : hp.get? x = some { cls := .ref C, dict := some dx, data := .fields fv }) (hns : hp.Ns1 dx m0) (hw : PySem.Within m0 nl) (hz : nl.length ≤ 1000) (ha : PySem.W.findIn K (.ref C) name = some none)
    (hq : ∀ h' tk', (∀ b o, b ≠ dx → hp.get? b = some o → h'.get? b = some o) → h'.Ns1 dx (fun y => if y = name then some v else m0 y) → R (.ok (.ret .none)) ⟨h', g, d, tk', os⟩) :
    codeAny (model prog w) A (.call (.builtin "object.__setattr__") ⟨[.ref x, .str name tk, v], []⟩) R ⟨hp, g, d, t, os⟩ := by
  obtain ⟨oD, esD, epD, hoD, hdD, _⟩ := hns.count hw
  obtain ⟨b, ho, cd, hcd, hh⟩ := T.over
  refine PySem.W.osa_openX (s := ⟨hp, g, d, t, os⟩) (od := some oD) (r := none) b.store X ⟨hx, rfl, rfl, hoD⟩ ho (by unfold PySem.W.takerIn; rw [ha]; rfl) fun bb => ?_
  have hcls : PySem.W.Looks (model prog w) hp (classData C) cd := PySem.W.looks_clsIn X hcd
  dsimp only
  obtain ⟨nm, bs, mro, ns, qn, hd, sn, sb, ab, col, del⟩ := cd
  dsimp only at hh
  subst hh
  unfold PySem.Builtin.ObjectAttr.storeInOwnDict PySem.Builtin.ObjectAttr.ownDictForStores
  repeat (first | with_reducible refine PySem.OEX.store_in_old hns hw hz ?_ | with_reducible refine wpAny_loadPart_at hx ?_ | with_reducible refine hcls.at ?_ | wp_step)
  intro h' tk' hn' hs
  exact hq h' tk' (fun b o hb ho => (hs.2 b hb).trans ho) hn'
end
section
variable {X : Cx} {pins : List (Addr × Obj)} {σ : L2.St} {H : Hp} {s : Shared} {a C dx : Addr} {f : Str} {y : V} {u : Value} {fs : List (Str × V)} {Q : Unit → Shared → Prop} {E : Value → Shared → Prop} {A : Around}
theorem stN (T : OexG X.K C) (I : L2.Inv X pins σ H s) (e : H a = some (exo a C none)) (hno : PySem.W.findIn X.K (.ref C) f = some none) (ry : RelV y u)
    (h : ∀ dx s', H dx = none → dx ≠ a → L2.Inv X pins σ (upd (upd H dx (exd dx [(f, y)])) a (exo a C (some dx))) s' → Q () s') : wpAny (model X.prog X.w) A (setAttr (.ref a) f u) Q E s := by
  obtain ⟨t1, ho⟩ := exo_at I.hok e
  obtain ⟨hp, g, d, t, os⟩ := s
  refine PySem.W.set_plain I.kIn (ox := { cls := .ref C, dict := none, data := .fields #[.ref t1, .none, .none, .none, .bool false, .none] }) (od := none) ⟨ho, rfl, rfl, trivial⟩ T.sa ?_
  refine osaN T I.kIn ho hno (fun h' tk' dx k dn dne hx hn => ?_)
  have hnd : H dx = none := I.hok.fresh dn
  have nd : ∀ {b : Addr} {o : Obj}, hp.get? b = some o → b ≠ dx := fun q => Nat.ne_of_lt (Nat.lt_of_lt_of_le (Heap.lt_size q) dn)
  have na : ∀ {b : Addr}, H b = none → b ≠ a := fun n z => by rw [z, e] at n; cases n
  have off : ∀ {b : Addr} {v : HO}, H b = some v → v ≠ exo a C none → upd (upd H dx (exd dx [(f, y)])) a (exo a C (some dx)) b = some v := fun {b v} q n => by
    have hba : b ≠ a := fun z => by
      rw [z, e] at q
      exact n (Option.some.inj q).symm
    rw [upd_ne hba, upd_ne (ne_of_none q hnd)]
    exact q
  have U : Un X.fs [] H (upd (upd H dx (exd dx [(f, y)])) a (exo a C (some dx))) hp h' := {
    keep := fun b o q n _ _ => k b o (na n) q
    slot := fun b o q n _ _ => ⟨o.slots, k b o (na n) q⟩
    free := fun b o q n _ => by rw [upd_ne (na n), upd_ne (nd q)]; exact n
    there := fun b o q _ => by
      by_cases hb : b = a
      · subst hb
        exact ⟨_, hx⟩
      · exact ⟨o, k b o hb q⟩
    tups := fun b xs q => off q (fun z => exo_tup z.symm)
    frzs := fun b o v q => off q (fun z => exo_frz z.symm)
    tbls := fun b ps q => ⟨#[], by rw [off q (fun z => exo_tbl z.symm)]; simp⟩ }
  refine h dx _ hnd dne (I.un (t' := tk') U fun b o q => ?_)
  by_cases hb : b = a
  · subst hb
    rw [upd_same] at q
    cases q
    exact exo_ok hx
  · rw [upd_ne hb] at q
    by_cases hd : b = dx
    · subst hd
      rw [upd_same] at q
      cases q
      exact exd_ok hn (relO_put (fs := []) ry fun g => True.intro)
    · rw [upd_ne hd] at q
      refine (I.hok b o q).stay (fun c v hc z => k c v (fun hca => ?_) z) (fun c hc => off hc (fun z => exo_own z.symm)) (fun c xs hc => off hc (fun z => exo_tup z.symm))
      rcases hc with hc | hc
      · exact hb (hc.symm.trans hca)
      · rw [hca, e] at hc
        exact exo_own (Option.some.inj hc)
theorem stO (T : OexG X.K C) (I : L2.Inv X pins σ H s) (e : H a = some (exo a C (some dx))) (ed : H dx = some (exd dx fs)) (hl : fs.length ≤ 900) (hno : PySem.W.findIn X.K (.ref C) f = some none) (ry : RelV y u)
    (h : ∀ s', L2.Inv X pins σ (upd H dx (exd dx ((f, y) :: fs))) s' → Q () s') : wpAny (model X.prog X.w) A (setAttr (.ref a) f u) Q E s := by
  obtain ⟨t1, ho⟩ := exo_at I.hok e
  obtain ⟨mA, hns, rel⟩ := exd_at I.hok ed
  have hw := within_of rel
  obtain ⟨hp, g, d, t, os⟩ := s
  obtain ⟨oD, _, _, hoD, _, _⟩ := hns.count hw
  refine PySem.W.set_plain I.kIn (ox := { cls := .ref C, dict := some dx, data := .fields #[.ref t1, .none, .none, .none, .bool false, .none] }) (od := some oD) ⟨ho, rfl, rfl, hoD⟩ T.sa ?_
  refine osaO T I.kIn ho hns hw (by rw [List.length_map]; omega) hno (fun h' tk' k hn => ?_)
  obtain ⟨o, es, ep, e', r⟩ := id hn
  exact h _ (I.write (t' := tk') (x := dx) (e := dx) (o := exd dx ((f, y) :: fs)) (by rw [ed]; exact True.intro) (.inl rfl) k ⟨o, e'⟩ (exd_ok hn (relO_put ry rel)))
end
/-- self.f = e in __init__ of an own exception -/
def tStG (K : Frag) (f : Str) (to te : TE) : TS := fun D σ H => te σ H fun y H1 => to σ H1 fun x H2 => ∃ a C : Addr, x = .ref a ∧ OexG K C ∧ PySem.W.findIn K (.ref C) f = some none ∧
  ((H2 a = some (exo a C none) ∧ ∀ dx, H2 dx = none → dx ≠ a → D.nx σ (upd (upd H2 dx (exd dx [(f, y)])) a (exo a C (some dx)))) ∨
    ∃ (dx : Addr) (fs : List (Str × V)), H2 a = some (exo a C (some dx)) ∧ H2 dx = some (exd dx fs) ∧ fs.length ≤ 900 ∧ D.nx σ (upd H2 dx (exd dx ((f, y) :: fs))))
section
variable {X : Cx} {o e : Expr} {es : List Expr} {to te : TE} {ta : TA} {f : Str} {p p' p1 p2 pos : Pos}
theorem ps_stG (ho : PE X o to) (he : PE X e te) (hs : swapsWith e (some (.Attribute o f p')) pos.line X.env = pure false := by rfl) : PS X (.Assign [.Attribute o f p'] e pos) (tStG X.K f to te) := by
  refine ⟨fun pins s σ H D I h => plainObj_wpAny_Assign_Attribute (thn (he.run pins s σ H _ I h) fun v s1 ⟨y, H1, I1, r1, q1⟩ => thn (ho.run pins s1 σ H1 _ I1 q1) fun u s2 ⟨x, H2, I2, r2, a, C, ex, T, hno, q⟩ => ?_) hs⟩
  subst ex
  obtain rfl : u = Value.ref a := r2
  rcases q with ⟨ea, q⟩ | ⟨dx, fs, ea, ed, hl, q⟩
  · exact stN T I2 ea hno r1 fun dx s' n ne J => ⟨σ, _, J, q dx n ne⟩
  · exact stO T I2 ea ed hl hno r1 fun s' J => ⟨σ, _, J, q⟩
/-- C(e, ..) -/
theorem pmkG {CX : CXT} {x : Str} {C fI : Addr} {k : Nat} {fd : FuncData} {ps : List Str} {sp : Sp} (T : OexG X.K C) (iC : PySem.W.findIn X.K (.ref C) "__init__" = some (some (.ref fI))) (tI : PySem.W.typeIn X.K (.ref fI) = some (.type "function"))
    (F1 : FnOk X.prog X.w X.K X.mg X.base CX k fI fd ps sp) (hr : Room (k + 1) X.A) (hb : Binds X.K fd ps []) (hx : Passes CX X (fun _ _ _ => False)) (hg : Gl X x) (hm : X.mg x = some (.ref C)) (ha : PA X (e :: es) ta)
    (hdb : (x == ("__debug__" : Str)) = false := by decide) (he : starEach (e :: es) X.env = (false, eval e X.env) :: starEach es X.env := by rfl) (hpl : (backTo pos (starEach es X.env)).any (·.1) = false := by rfl) :
    PMk X (.Call (.Name x p) (e :: es) [] pos) (tMkO C sp [] ta) := by
  intro pins s σ H Q I h
  obtain ⟨b, nm, q, N, bs, sn, sub, ab, col, dd, k0, k1, k2, k3, k5, hC⟩ := T.cls
  refine wpAny_Call_Name_kw (ld_glob I hg hm ?_ hdb)
  refine PySem.W.callWith_K (h₀ := X.base) I.ok.mod.kin T.kC (thn (ha.run pos pins s σ H _ I h) fun us s1 ⟨vs, H1, I1, r1, hz, q1⟩ => ⟨I1.kIn, ?_⟩) he hpl
  show wpAny _ _ (call (.ref C) us) _ _ _
  obtain ⟨hp, g, dr, tk, os⟩ := s1
  have hsz : hp.objs.size ≤ hp.objs.size + 1 := Nat.le_succ _
  have hn : H1 (hp.objs.size + 1) = none := I1.hok.fresh hsz
  have hq := q1 (hp.objs.size + 1) hn
  rw [List.append_nil] at hq
  have kk : ∀ b o, hp.get? b = some o → ((hp.push (PySem.W.kdv_tup us)).push (PySem.HandSPX.excO C hp.objs.size)).get? b = some o := fun b o e => Heap.get?_push_of_some _ (Heap.get?_push_of_some _ e)
  have hget : ((hp.push (PySem.W.kdv_tup us)).push (PySem.HandSPX.excO C hp.objs.size)).get? (hp.objs.size + 1) = some (PySem.HandSPX.excO C hp.objs.size) := by heap_get
  have I2 : L2.Inv X pins σ (upd H1 (hp.objs.size + 1) (exo (hp.objs.size + 1) C none)) ⟨(hp.push (PySem.W.kdv_tup us)).push (PySem.HandSPX.excO C hp.objs.size), g, dr, tk, os⟩ :=
    I1.laid (t' := tk) (a := hp.objs.size + 1) (o := exo (hp.objs.size + 1) C none) (h' := (hp.push (PySem.W.kdv_tup us)).push (PySem.HandSPX.excO C hp.objs.size)) kk hsz (exo_ok hget)
  have r2 : Vals (V.ref (hp.objs.size + 1) :: vs) (Value.ref (hp.objs.size + 1) :: us) := .cons rfl r1
  have hl : (Value.ref (hp.objs.size + 1) :: us ++ []).length = ps.length := by
    rw [List.append_nil, ← r2.length]
    exact F1.len _ _ _ _ hq
  have hus : us.length ≤ sizeLine := by
    rw [← Paired.length r1, sizeLine_eq]
    omega
  have bb := hb _ (Value.ref (hp.objs.size + 1) :: us) I2.kIn hl
  rw [List.append_nil] at bb
  refine wpAny_call (PySem.HandSPX.call_own b.base (fun Y => rfl) (I1.kIn _ _ hC) (PySem.W.looks_findIn I1.kIn iC) (fun self => PySem.W.bind_fn I1.kIn self tI) hus
    (codeAny_mono (F1.run _ X.stack _ _ ⟨Value.ref (hp.objs.size + 1) :: us, []⟩ (Value.ref (hp.objs.size + 1) :: us) _ _ (fun _ _ _ => False) (hr.make C us []) (I2.env0.make C us []) bb r2 hq) fun r s' hq' => ?_))
  match r, hq' with
  | .error er, hq' => exact hx pins σ _ _ er s' I2 hq'
  | .ok (.ret u), hq' =>
    obtain ⟨v, H2, os2, bare2, un2, hok2, rv, ev, d, fs, ea, ed, hd1, q2⟩ := hq'
    subst ev
    obtain ⟨h2, g2, d2, t2, os'⟩ := s'
    exact ⟨rv, mk_end (raises_own T.exC T.tyC) I1 hsz kk un2 hok2 os2 bare2 ea ed hd1 q2⟩
end
end Ah

/-! exceptions of the program's own over ValueError, with one or two fields -/
namespace Ah
open PySem PySem.Spec PyProof.Rows L2 He
def oexB (b : EB) (C : Str) (K : Frag) : Bool :=
  (match K.lookup (ga K C) with
    | some ⟨.type "type", _, .cls cd, sl⟩ => (match cd.mro, sl.toList with
      | .ref C' :: bm, [_, _, _, _, some (.builtin n), _] => C' == ga K C && (n == b.nw && (!cd.hasDel && (cd.hasDict && (bm == b.tl))))
      | _, _ => false)
    | _ => false) &&
  (eqO (PySem.W.findIn K (.ref (ga K C)) "__setattr__") (some (some (.builtin "object.__setattr__"))) &&
  (decide (PySem.W.subIn K (.ref (ga K C)) (.type "BaseException") = some true) && (decide (PySem.W.typeIn K (.ref (ga K C)) = some (.type "type")) && PySem.W.keepIn K (.ref (ga K C)))))
theorem oex_ok {b : EB} {C : Str} {K : Frag} (h : oexB b C K = true) : OexG K (ga K C) := by
  unfold oexB at h
  obtain ⟨h0, h⟩ := ba h
  obtain ⟨h1, h⟩ := ba h
  obtain ⟨h2, h⟩ := ba h
  obtain ⟨h3, h4⟩ := ba h
  refine ⟨?_, eqO_ok h1, of_decide_eq_true h2, of_decide_eq_true h3, h4⟩
  split at h0
  · rename_i dd cd sl ho
    split at h0
    · rename_i C' bm k0 k1 k2 k3 n k5 hm hsl
      obtain ⟨e1, h0⟩ := ba h0
      obtain ⟨e2, h0⟩ := ba h0
      obtain ⟨e3, h0⟩ := ba h0
      obtain ⟨e4, e5⟩ := ba h0
      have e1' : C' = ga K C := beq_iff_eq.mp e1
      have e2' : n = b.nw := beq_iff_eq.mp e2
      have e5' : bm = b.tl := beq_iff_eq.mp e5
      subst e1' e2' e5'
      obtain ⟨nm, bs, mro, ns, qn, hd, sn, sb, ab, col, del⟩ := cd
      dsimp only at hm e3 e4
      subst hm
      have e3' : del = false := by simpa using e3
      have e4' : hd = true := e4
      subst e3' e4'
      have es : sl = #[k0, k1, k2, k3, some (.builtin b.nw), k5] := by
        apply Array.ext'
        rw [hsl]
      subst es
      exact ⟨b, _, _, _, _, _, _, _, _, _, _, _, _, _, _, ho⟩
    · cases h0
  · cases h0
/-- what __init__ of a class with one field keeps -/
def spX1 (C : Addr) (f : Str) : Sp := fun vs H Q _ => ∃ (a : Addr) (v : V), vs = [.ref a, v] ∧ H a = some (exo a C none) ∧ ∀ dx, H dx = none → dx ≠ a → Q .non (upd (upd H dx (exd dx [(f, v)])) a (exo a C (some dx)))
def spX2 (C : Addr) (f g : Str) : Sp := fun vs H Q _ => ∃ (a : Addr) (v w : V), vs = [.ref a, v, w] ∧ H a = some (exo a C none) ∧ ∀ dx, H dx = none → dx ≠ a → Q .non (upd (upd (upd H dx (exd dx [(f, v)])) a (exo a C (some dx))) dx (exd dx [(g, w), (f, v)]))
/-- the def at f keeps sp, whatever is under way -/
structure FnU (P : Program) (w : World) (K : Frag) (mg : Str → Option Value) (base : Heap) (k : Nat) (f : Addr) (sp : Sp) : Prop where
  ex : ∃ fd ps, FnOk P w K mg base (L2.CX P w) k f fd ps sp ∧ Binds K fd ps []
theorem okU {P : Program} {w : World} {K : Frag} {mg : Str → Option Value} {base : Heap} {N ps : List Str} {k : Nat} {sp : Sp} {d : DefG} (S : Stands K d) (h0 : d.dfl = []) (sc : FnScope N ps d.scope) (len : ∀ vs H Q E, sp vs H Q E → vs.length = ps.length)
    (hb : ∀ (kV doc pm : Value) (an : Option Addr) (cdv ct : Value) (us : List Value), us.length = ps.length → bindArgs (PySem.W.fnOf d.name d.qual d.params d.body d.scope .none kV doc pm an cdv ct) ⟨us, []⟩ = pure (ps.zip us))
    (hbody : ∀ (cdv : Value) (A : Around) (outer : List Env) (s : Shared) (H : Hp) (vs : List V) (Q : VK) (E : XK), Room k (A.deeper (envOfC d.qual d.scope s.heap.objs.size (d.ad K) cdv)) → sp vs H Q E →
      ∃ t, PSs (cxOf (L2.CX P w) P w K mg base N d.qual d.scope (d.ad K) cdv A outer s H E) d.body t ∧ t { nx := fun _ H' => Q .non H', rt := Q } (L2.start N vs) H) : FnU P w K mg base (k + 1) (d.ad K) sp := by
  obtain ⟨fd, F⟩ := S
  have e : d.dvs K = [] := by unfold DefG.dvs; rw [h0]; rfl
  rw [e] at F
  exact ⟨⟨fd, ps, F.ok sc len hbody, F.bindsN hb⟩⟩
/-- the class as a raise asks it -/
structure ExcT (K : Frag) (mg : Str → Option Value) (C : Str) : Prop where
  g : mg C = some (.ref (ga K C))
  o : OexG K (ga K C)
  i : PySem.W.findIn K (.ref (ga K C)) "__init__" = some (some (.ref (ma K (ga K C) "__init__")))
  t : PySem.W.typeIn K (.ref (ma K (ga K C) "__init__")) = some (.type "function")
def excTB (b : EB) (C : Str) (K : Frag) : Bool := oexB b C K && (eqO (PySem.W.findIn K (.ref (ga K C)) "__init__") (some (some (.ref (ma K (ga K C) "__init__")))) && decide (PySem.W.typeIn K (.ref (ma K (ga K C) "__init__")) = some (.type "function")))
theorem excT_ok {b : EB} {C : Str} {K : Frag} {mg : Str → Option Value} (g : mg C = some (.ref (ga K C))) (h : excTB b C K = true) : ExcT K mg C := by
  obtain ⟨h1, h⟩ := ba h
  obtain ⟨h2, h3⟩ := ba h
  exact ⟨g, oex_ok h1, eqO_ok h2, of_decide_eq_true h3⟩
section
variable {X : Cx} {C : Str} {e : Expr} {es : List Expr} {ta : TA} {sp : Sp} {k j : Nat} {p pos pos2 : Pos} {W : WX}
/-- raise C(e, ..) -/
theorem ps_raiseC (hc : X.calm = true) (tk : Takes X W) (T : ExcT X.K X.mg C) (F : FnU X.prog X.w X.K X.mg X.base k (ma X.K (ga X.K C) "__init__") sp) (hr : Rm j X.A) (ha : PA X (e :: es) ta) (hk : k + 1 ≤ j := by decide) (hg : Gl X C := by rfl)
    (hdb : (C == ("__debug__" : Str)) = false := by decide) (he : starEach (e :: es) X.env = (false, eval e X.env) :: starEach es X.env := by rfl) (hpl : (backTo pos (starEach es X.env)).any (·.1) = false := by rfl) :
    PS X (.Raise (some (.Call (.Name C p) (e :: es) [] pos)) none pos2) (fun _ σ H => tMkO (ga X.K C) sp [] ta σ H fun cls d H' => W cls d σ H') := by
  obtain ⟨⟨fd, ps, G, b⟩⟩ := F
  exact ps_raise hc tk (pmkG T.o T.i T.t G (hr.r.mono hk) b passL hg T.g ha hdb he hpl)
end
section
variable {K : Frag} {C : Addr} {f g : Str} {v w : V} {H : Hp} {Q : XK}
theorem exd_not {d : Addr} {fs : List (Str × V)} {o : HO} (h : o = exd d fs) : o = exd d fs := h
/-- what a made error with one field leaves: its dict, new -/
theorem mkX1 (q : ∀ d, H d = none → Q (.ref C) (some d) (upd H d (.xd [(f, v)]))) (a : Addr) (ha : H a = none) : spX1 C f [.ref a, v] (upd H a (exo a C none))
    (fun x H2 => x = .non ∧ ∃ (d : Addr) (fs : List (Str × V)), H2 a = some (exo a C (some d)) ∧ H2 d = some (exd d fs) ∧ H d = none ∧ Q (.ref C) (some d) (upd (del H2 a) d (.xd fs))) fun _ _ _ => False := by
  refine ⟨a, v, rfl, upd_same, fun dx hd ne => ⟨rfl, dx, [(f, v)], upd_same, by rw [upd_ne ne, upd_same], by rw [upd_ne ne] at hd; exact hd, ?_⟩⟩
  rw [upd_ne ne] at hd
  have e : upd (del (upd (upd (upd H a (exo a C none)) dx (exd dx [(f, v)])) a (exo a C (some dx))) a) dx (.xd [(f, v)]) = upd H dx (.xd [(f, v)]) := by
    funext b
    by_cases h1 : b = dx
    · rw [h1, upd_same, upd_same]
    · rw [upd_ne h1, upd_ne h1]
      by_cases h2 : b = a
      · rw [h2, del_same, ha]
      · rw [del_ne h2, upd_ne h2, upd_ne h1, upd_ne h2]
  rw [e]
  exact q dx hd
theorem mkX2 (q : ∀ d, H d = none → Q (.ref C) (some d) (upd H d (.xd [(g, w), (f, v)]))) (a : Addr) (ha : H a = none) : spX2 C f g [.ref a, v, w] (upd H a (exo a C none))
    (fun x H2 => x = .non ∧ ∃ (d : Addr) (fs : List (Str × V)), H2 a = some (exo a C (some d)) ∧ H2 d = some (exd d fs) ∧ H d = none ∧ Q (.ref C) (some d) (upd (del H2 a) d (.xd fs))) fun _ _ _ => False := by
  refine ⟨a, v, w, rfl, upd_same, fun dx hd ne => ⟨rfl, dx, [(g, w), (f, v)], by rw [upd_ne ne.symm, upd_same], upd_same, by rw [upd_ne ne] at hd; exact hd, ?_⟩⟩
  rw [upd_ne ne] at hd
  have e : upd (del (upd (upd (upd (upd H a (exo a C none)) dx (exd dx [(f, v)])) a (exo a C (some dx))) dx (exd dx [(g, w), (f, v)])) a) dx (.xd [(g, w), (f, v)]) = upd H dx (.xd [(g, w), (f, v)]) := by
    funext b
    by_cases h1 : b = dx
    · rw [h1, upd_same, upd_same]
    · rw [upd_ne h1, upd_ne h1]
      by_cases h2 : b = a
      · rw [h2, del_same, ha]
      · rw [del_ne h2, upd_ne h1, upd_ne h2, upd_ne h1, upd_ne h2]
  rw [e]
  exact q dx hd
end
end Ah

/-! try with several clauses 'except x as n' -/
namespace Ah
open PySem PySem.Spec PyProof.Rows L2 He
/-- a clause: its class, the slot of its name, the reading of its suite -/
structure Clause where
  c : Value
  i : Nat
  ts : Addr → Value → Option Addr → TS
/-- what a suite wishes behind itself: the clause's name is gone -/
def goneD (D : Ends) (i : Nat) : Ends := { nx := fun σ H => D.nx (σ.set i none) H, rt := D.rt, bk := fun σ H => D.bk (σ.set i none) H, ct := fun σ H => D.ct (σ.set i none) H }
/-- what the clauses wish of an exception of the body -/
def wCls (K : Frag) (Wout : WX) (D : Ends) : List Clause → WX
  | [] => Wout
  | k :: r => fun cls d σ H => ∃ b, PySem.W.exmOne K cls k.c = some b ∧ (b = true → ∀ a, H a = none → k.ts a cls d (goneD D k.i) (σ.set k.i (some (.ref a))) H) ∧ (b = false → wCls K Wout D r cls d σ H)
inductive HdA (X : Cx) : List ExceptHandler → List Clause → Prop
  | nil : HdA X [] []
  | cons {x n : Str} {k : Clause} {b₀ : Stmt} {suite : List Stmt} {np pos' : Pos} {hds : List ExceptHandler} {l : List Clause} (hc : Names X x k.c) (hi : X.N[k.i]? = some n) (hln : X.env.kindOf n = some .local)
      (hsu : ∀ (a : Addr) (oe : Obj) (cls : Value) (d : Option Addr) (pn : List (Addr × Obj)), Zc cls d oe → (∃ vs, oe.data = .fields vs) → PSs (X.suite a ((a, oe) :: pn)) (b₀ :: suite) (k.ts a cls d)) (r : HdA X hds l) :
      HdA X (.ExceptHandler (some (.Name x np)) (some n) (b₀ :: suite) pos' :: hds) (k :: l)
theorem takes_none {X : Cx} : Takes X (fun _ _ _ _ => False) := fun _ _ ⟨_, _, _, _, _, _, _, _, _, _, _, _, _, _, _, _, w⟩ => w.elim
section
variable {X : Cx} {body : List Stmt} {h₀ : ExceptHandler} {hds : List ExceptHandler} {l : List Clause} {pos : Pos} {tb : WX → TS} {Wout : WX}
theorem ps_tryA (hs : X.stack = X.env :: X.outer) (hf : X.env.frame = some X.env.locals) (hN : X.N.Nodup) (tk : Takes X Wout)
    (hb : ∀ (W : WX) (pn : List (Addr × Obj)) (xe : Value → Shared → Prop), Takes (X.tr pn xe) W → PassesOwn (model X.prog X.w) X.A X.env xe → PSs (X.tr pn xe) body (tb W))
    (hh : HdA X (h₀ :: hds) l) : PS X (.Try body (h₀ :: hds) [] [] pos) (fun D σ H => tb (fun cls d σ' H' => σ'.length = X.N.length → wCls X.K Wout D l cls d σ' H') D σ H) := by
  refine ⟨fun pins s σ H D I h => wpAny_Try_except ?_⟩
  have ok := I.ok
  have hfr : X.A.frames = some (X.env :: X.outer) := by rw [ok.frames, hs]
  refine wpAny_mono ((hb (fun cls d σ' H' => σ'.length = X.N.length → wCls X.K Wout D l cls d σ' H') (X.pn ++ pins) (fun e s₁ => wpAny (model X.prog X.w) X.A (noteFrame e X.env) (fun _ s₂ => wpAny (model X.prog X.w) X.A (setFlight e none) (fun _ s₃ =>
    wpAny (model X.prog X.w) X.A (handleBy e X.env (h₀ :: hds)) (SP X pins D) X.xe s₃) X.xe s₂) X.xe s₁) (fun u s' xx => ?_) PassesOwn.looking).run [] s σ H D (I.toTry _) h) (fun f s1 hsp => ?_) (fun e s1 he => he)
  · obtain ⟨a, B, sI, pins', σ', H', cls, d, rfl, J', nb, up, sky, na, os, ag, w⟩ := xx
    have J : L2.Inv X pins σ' H' sI := J'.ofTry ok
    replace w := w J.len
    refine Sky.land Zc.steady hfr hf (by rw [← hs]; exact sky) fun h3 fl3 up3 => ?_
    have J3 : L2.Inv X pins σ' H' { s' with heap := h3 } := J.landed nb fl3.1 (up.trans up3) os ag
    obtain ⟨oe3, vs3, he3, hz3, hd3⟩ := fl3.there
    have nfr : a ∉ frs (X.env :: X.outer) := fun hm => by
      obtain ⟨_, o', e', hnf⟩ := fl3.2.2.1.mem hm
      rw [he3] at e'
      cases e'
      exact hnf _ hd3
    have nL : a ≠ X.env.locals := fun z => nfr (List.mem_filterMap.mpr ⟨X.env, List.mem_cons_self, by rw [hf, z]⟩)
    have nF : a ∉ X.fs := fun hm => by
      obtain ⟨e, he, q⟩ := List.mem_filterMap.mp hm
      exact nfr (List.mem_filterMap.mpr ⟨e, List.mem_cons_of_mem _ he, q⟩)
    have S3 := J3.suite he3 hd3 na nL nF
    have LT : PySem.W.Looks (model X.prog X.w) h3 (typeOf (.ref a)) cls := fun A Q E s k q => wpAny_typeOf_ref (k _ _ he3) (by rw [hz3.1]; exact q)
    have go : ∀ {hs' : List ExceptHandler} {l' : List Clause}, HdA X hs' l' → wCls X.K Wout D l' cls d σ' H' → wpAny (model X.prog X.w) X.A (handleBy (.ref a) X.env hs') (SP X pins D) X.xe { s' with heap := h3 } := by
      intro hs' l' hk
      induction hk with
      | nil =>
        intro w
        refine wpAny_handleBy_nil ?_
        obtain ⟨k1, k2, k3, oe, vs, T, oT, ts', he, hz, hd, h1, hr⟩ := id fl3
        unfold PySem.passOn
        refine wpAny_bind (wpAny_field he hd h1 ?_)
        rw [if_neg (show ¬ ((Value.ref T == Value.none) = true) by simp)]
        have fin : wpAny (model X.prog X.w) X.A (setFlight (.ref a) X.env.frame) (fun _ s4 => wpAny (model X.prog X.w) X.A (throw (.ref a) : Sem Flow) (SP X pins D) X.xe s4) X.xe { s' with heap := h3 } := by
          rw [hf]
          refine HandSPX.setFlight_upZ fl3 fun h4 hh4 up4 => wpAny_throw (tk _ _ ⟨a, B, sI, pins, σ', H', cls, d, rfl, J, nb, (up.trans up3).trans up4, .inr (.inr ?_), na, os, ag, w⟩)
          rw [hs]
          exact hh4
        first
          | exact wpAny_bind (wpAny_pure (wpAny_bind fin))
          | exact wpAny_bind fin
      | @cons x n k b₀ suite np pos' hds2 l2 hc hi hln hsu r ih =>
        rintro ⟨b, hb1, hyes, hno⟩
        refine wpAny_handleBy_cons (codeAny_handlers_test ?_) (by intro q; cases q)
        have LM := PySem.W.exm_one (M := model X.prog X.w) (J3.kIn) LT hb1
        have test : ∀ {Q : Value → Shared → Prop} {E : Value → Shared → Prop}, Q k.c { s' with heap := h3 } → wpAny (model X.prog X.w) (X.A.mark (some (.ref a))) (eval (.Name x np) X.env) Q E { s' with heap := h3 } := by
          intro Q E q
          obtain ⟨hg, hdbg, hm | ⟨hm, hv, hnn⟩⟩ := hc
          · exact ld_glob (X := X.suite a ((a, oe3) :: (X.pn ++ pins))) S3 hg hm q hdbg
          · exact ld_blt (X := X.suite a ((a, oe3) :: (X.pn ++ pins))) S3 hg hm hv q hnn hdbg
        refine test (LM.here ?_)
        cases b with
        | true =>
          refine codeAny_handlers_suite_as (HandSPX.lands_againZ fl3 fun h4 fl4 up4 => ?_)
          have J4 : L2.Inv X pins σ' H' { s' with heap := h4 } := J.landed nb fl4.1 ((up.trans up3).trans up4) os ag
          obtain ⟨oe4, vs4, he4, hz4, hd4⟩ := fl4.there
          have S4 := J4.suite he4 hd4 na nL nF
          refine store_ok (X := X.suite a ((a, oe4) :: (X.pn ++ pins))) (v := .ref a) S4 hN hi (.inl hln) rfl (fun s5 S5 => ?_) (.inr hln)
          refine wpAny_mono ((hsu a oe4 cls d (X.pn ++ pins) hz4 ⟨_, hd4⟩).run [] s5 _ H' _ S5 (hyes rfl a na)) (fun f s6 hsp => ?_) (fun _ _ z => False.elim z)
          have end_ : ∀ {σ6 : L2.St} {H6 : Hp} {Q : Shared → Prop}, L2.Inv (X.suite a ((a, oe4) :: (X.pn ++ pins))) [] σ6 H6 s6 → (∀ s7, L2.Inv X pins (σ6.set k.i none) H6 s7 → Q s7) →
              wpAny (model X.prog X.w) X.A (do bindName X.env n .none; unbindBehindTheSuite X.env n pos') (fun _ s7 => Q s7) X.xe s6 := fun {σ6 H6 Q} S6 hq => gone_ok (S6.unsuite ok) hN hi hln hq
          match f, hsp with
          | .next, ⟨σ6, H6, S6, q6⟩ => exact end_ S6 fun s7 J7 => ⟨_, _, J7, q6⟩
          | .brk, ⟨σ6, H6, S6, q6⟩ => exact end_ S6 fun s7 J7 => ⟨_, _, J7, q6⟩
          | .cont, ⟨σ6, H6, S6, q6⟩ => exact end_ S6 fun s7 J7 => ⟨_, _, J7, q6⟩
          | .ret u, ⟨v6, σ6, H6, S6, r6, q6⟩ => exact end_ S6 fun s7 J7 => ⟨_, _, _, J7, r6, q6⟩
        | false =>
          show wpAny _ X.A (handleBy (.ref a) X.env hds2) _ _ _
          exact ih (hno rfl)
    exact go hh w
  · match f, hsp with
    | .next, ⟨σ', H', J', q⟩ => exact wpAny_execs_nil ⟨σ', H', J'.ofTry ok, q⟩
    | .brk, ⟨σ', H', J', q⟩ => exact ⟨σ', H', J'.ofTry ok, q⟩
    | .cont, ⟨σ', H', J', q⟩ => exact ⟨σ', H', J'.ofTry ok, q⟩
    | .ret u, ⟨v, σ', H', J', r, q⟩ => exact ⟨v, σ', H', J'.ofTry ok, r, q⟩
end
end Ah

/-! isinstance of a caught error that has a dict; repr of data -/
namespace Ah
open PySem PySem.Spec PySem.W PySem.Calls PyProof.Rows L2 He
section
variable {prog : Program} {w : World} {A : Around} {E : Value → Shared → Prop} {s : Shared} {K : Frag} {x D : Addr} {ox od : Obj}
theorem cls_of_exc {Q : Option Value → Shared → Prop} (C : ExcC K D) (X : K.In s.heap) (I : InstAt s.heap x ox D (some od)) (h : Q (some (.ref D)) { s with toks := s.toks + 1 }) : wpAny (model prog w) A (getAttr? (.ref x) "__class__") Q E s := by
  have hf : findObj K D (some od) "__class__" = some (.bind (.builtin "getset_descriptor.__get__") (.builtin "object.__class__")) := findObj_data (by obtain ⟨cd, hc, _⟩ := any_some C.hd; rw [hc]; rfl) C.ha C.hn C.ht
  obtain ⟨hp, g, d, t, os⟩ := s
  have L0 := I.type (M := model prog w)
  have L1 := looks_findIn (M := model prog w) X C.hg
  have L2 := looks_findIn (M := model prog w) X C.hk
  have L3 := looks_find (M := model prog w) X I hf
  have sub : Looks (model prog w) hp (isInstance (.ref x) (.type "BaseException")) true := L0.andThen (looks_subIn X C.hs)
  have own : (Value.builtin "BaseException.__getattribute__" == Value.builtin "object.__getattribute__") = false := by decide +kernel
  have own1 : (onTheHeap (Value.ref D) && Value.builtin "BaseException.__getattribute__" == Value.builtin "object.__getattribute__") = false := by rw [own]; rfl
  have own2 : (false && onTheHeap (Value.builtin "BaseException.__getattribute__")) = false := rfl
  unfold getAttr? getAttrBy? getAttrBy
  refine wpAny_bind (wpAny_mkText (wpAny_bind (wpAny_attempt (wpAny_holding (wpAny_bind (L0.at (wpAny_bind (L1.at ?_))))))))
  show wpAny _ _ (if (onTheHeap (Value.ref D) && Value.builtin "BaseException.__getattribute__" == Value.builtin "object.__getattribute__") = true then _ else _) _ _ _
  rw [own1, if_neg Bool.false_ne_true]
  unfold getAttrByItsOwn hookBefore
  refine wpAny_bind ?_
  rw [if_pos (show onTheHeap (Value.ref D) = true from rfl)]
  refine L2.at (wpAny_bind (wpAny_attempt (wpAny_holding ?_)))
  unfold callGetattribute
  rw [own2, if_neg Bool.false_ne_true]
  unfold boundAndCalled
  rw [PySem.F.excAttr_ValueError.ga.bind (.ref x)]
  refine wpAny_bind (wpAny_pure ?_)
  show wpAny _ _ (call (.builtin "BaseException.__getattribute__") [.ref x, .str "__class__" t]) _ _ _
  refine wpAny_call (codeAny_call_builtin PySem.F.excAttr_ValueError.ga.plain PySem.F.entry_bexc_ga ?_)
  refine @check_slot (model prog w) _ _ ⟨hp, g, d, t + 1, os⟩ "BaseException.__getattribute__" "BaseException" "__getattribute__" (.ref x) [.str "__class__" t] [] _ (by decide +kernel) (by decide +kernel) sub (PySem.F.args_bexc_ga (.ref x) (.str "__class__" t)) ?_
  unfold Builtin.«object.__getattribute__»
  refine wpAny_bind (wpAny_of_eq (a := ((Value.ref x : Value), [Value.str "__class__" t])) (by first | rfl | (simp only [slotArgs]; rfl)) ?_)
  refine wpAny_bind (wpAny_pure (wpAny_bind (L0.at (wpAny_bind (L3.at ?_)))))
  show wpAny _ _ (holding [Value.builtin "object.__class__"] (call (.builtin "getset_descriptor.__get__") [.builtin "object.__class__", .ref x, .ref D]) >>= ret) _ _ _
  refine wpAny_bind (wpAny_holding (wpAny_call (class_get (s := ⟨hp, g, d, t + 1, os⟩) (ox := ox) (od := some od) X I C.hm ?_)))
  refine wpAny_pure ?_
  show wpAny _ _ (handedOut (.ref D)) _ _ _
  rw [handedOut_of (v := .ref D) rfl]
  first
    | exact wpAny_pure (wpAny_pure h)
    | exact wpAny_pure h
    | exact wpAny_pure (wpAny_bind (wpAny_pure (wpAny_pure h)))
theorem kitx_excD (C : ExcC K D) : KitX K (.ref x) (.ref D) (fun h => InstAt h x ox D (some od)) where
  ty := fun _ _ _ I => I.type
  it := fun _ _ X _ => by
    obtain ⟨cdD, hcD, _⟩ := any_some C.hd
    unfold clsIn at hcD
    split at hcD
    · rename_i c' d' cd' sl' ho
      intro A' Q' E' s' k q
      unfold isType loadHead
      exact wpAny_bind (wpAny_loadPart (k _ _ (X _ _ ho)) (wpAny_pure q))
    · cases hcD
  ne := fun h tp dd its n sl X htp => by
    obtain ⟨cdD, hcD, _⟩ := any_some C.hd
    refine Bool.eq_false_iff.mpr fun q => ?_
    cases (Value.ref.inj (beq_iff_eq.mp q) : D = tp)
    unfold clsIn at hcD
    split at hcD
    · rename_i c' d' cd' sl' ho
      cases (X _ _ ho).symm.trans htp
    · cases hcD
  ca := fun X I k => cls_of_exc C X I k
end
/-- isinstance(e, c), e the exception with a dict that the suite holds -/
def rIsX (K : Frag) (a : Addr) (cls : Value) (d : Option Addr) : List V → Hp → VK → Prop := fun xs H Q => ∃ (D dd : Addr) (fs : List (Str × V)) (c : V) (cv : Value) (b : Bool), cls = .ref D ∧ d = some dd ∧ H dd = some (.xd fs) ∧ ExcC K D ∧ xs = [.ref a, c] ∧ ClsV c cv ∧ kitOne K (.ref D) cv = some b ∧ Q (.bl b) H
theorem call_isX {X : Cx} {a : Addr} {cls : Value} {d : Option Addr} {oe : Obj} {pn : List (Addr × Obj)} (hz : Zc cls d oe) (hf : ∃ vs, oe.data = .fields vs) : CallR (X.suite a ((a, oe) :: pn)) (.builtin "isinstance") (rIsX X.K a cls d) := by
  intro pins s σ H xs us Q I r h
  obtain ⟨D, dd, fs, c, cv, b, rfl, rfl, ed, C, rfl, hcv, e, q⟩ := h
  cases r with
  | cons rx rr =>
    cases rr with
    | cons rt rr =>
      cases rr
      cases rx
      have ec := hcv.eq rt
      subst ec
      obtain ⟨hget, _⟩ := I.pin (a, oe) (List.mem_append.mpr (.inl List.mem_cons_self))
      obtain ⟨vs, hv⟩ := hf
      have hx : ObjOk X.prog X.w H s.heap dd (.xd fs) := I.hok dd _ ed
      obtain ⟨mA, hns, hr⟩ := hx
      obtain ⟨od, ho, hl⟩ := lookIn_ns hns
      have J : InstAt s.heap a oe D (some od) := ⟨hget, hz.1, by unfold notCls; rw [hv] <;> rfl, by rw [hz.2]; exact ho⟩
      exact kia_one (kitx_excD C) I.kIn J e (fun z => nomatch z) fun tk => ⟨.bl b, H, I.kept (t' := tk) fun _ _ z => z, rfl, q⟩
def excCB (C : Str) (K : Frag) : Bool :=
  eqO (findIn K (.ref (ga K C)) "__getattribute__") (some (some (.builtin "BaseException.__getattribute__"))) && (eqO (findIn K (.ref (ga K C)) "__getattr__") (some none) && (decide (subIn K (.ref (ga K C)) (.type "BaseException") = some true) &&
  (hasDictIn K (ga K C) && (eqO (findIn K (.ref (ga K C)) "__class__") (some (some (.builtin "object.__class__"))) && (eqO (specialIn K (.builtin "object.__class__") "__get__") (some (some (.builtin "getset_descriptor.__get__"))) &&
  (decide (takesIn K (.builtin "object.__class__") = some true) && decide (mroIn K (ga K C) (.type "object") = some true)))))))
theorem excC_ok {C : Str} {K : Frag} (h : excCB C K = true) : ExcC K (ga K C) := by
  unfold excCB at h
  obtain ⟨h1, h⟩ := ba h
  obtain ⟨h2, h⟩ := ba h
  obtain ⟨h3, h⟩ := ba h
  obtain ⟨h4, h⟩ := ba h
  obtain ⟨h5, h⟩ := ba h
  obtain ⟨h6, h⟩ := ba h
  obtain ⟨h7, h8⟩ := ba h
  exact ⟨eqO_ok h1, eqO_ok h2, of_decide_eq_true h3, h4, eqO_ok h5, eqO_ok h6, of_decide_eq_true h7, of_decide_eq_true h8⟩
/-- repr(x) of data -/
def rReprD (K : Frag) : List V → Hp → VK → Prop := fun xs H Q => ∃ (x : V) (d : PyData), xs = [x] ∧ Dp K H x d ∧ d.showable = true ∧ d.hasDict = false ∧ d.depth ≤ 64 ∧ d.shown.length ≤ sizeLine ∧ Q (.str d.shown) H
theorem call_reprD {X : Cx} (hg : X.A.guards = some []) (hu : X.A.units + 99 < cLine) : CallR X (.builtin "repr") (rReprD X.K) := by
  intro pins s σ H xs us Q I r h
  obtain ⟨x, d, rfl, hx, h1, h2, h3, h4, q⟩ := h
  obtain ⟨u, rfl, ru⟩ := r.one
  obtain ⟨as, rd⟩ := Dp.reads I d x u hx ru
  have fin : ∀ h' t tk, (∀ b o, s.heap.get? b = some o → h'.get? b = some o) → EP X pins σ Q (.str d.shown t) { s with heap := h', toks := tk } := fun h' t tk hk => ⟨.str d.shown, H, I.kept (t' := tk) hk, ⟨t, rfl⟩, q⟩
  have now : ∀ t tk, EP X pins σ Q (.str d.shown t) { s with toks := tk } := fun t tk => fin s.heap t tk fun _ _ z => z
  cases hx with
  | non => cases (show u = Value.none from ru); exact PySem.P.repr_of_none (now _ _)
  | bl b => cases (show u = Value.bool b from ru); exact PySem.P.repr_of_bool (now _ _)
  | int i =>
    obtain ⟨t, e⟩ := (show ∃ t, u = Value.int i t from ru)
    subst e
    exact PySem.P.repr_of_int (of_decide_eq_true h1) (now _ _)
  | str z =>
    obtain ⟨t, e⟩ := (show ∃ t, u = Value.str z t from ru)
    subst e
    exact PySem.P.repr_of_str (now _ _) h4
  | lst a b =>
    rename_i ad xs ds
    cases (show u = Value.ref ad from ru)
    exact repr_of_reads' rd h1 (fun z => by rw [h2] at z; cases z) hg (by omega) (fun _ _ z => z) fin h4
  | tup a b =>
    rename_i ad xs ds
    cases (show u = Value.ref ad from ru)
    exact repr_of_reads' rd h1 (fun z => by rw [h2] at z; cases z) hg (by omega) (fun _ _ z => z) fin h4
theorem call_reprX {X : Cx} {a : Addr} {cls : Value} {d : Option Addr} {oe : Obj} {pn : List (Addr × Obj)} (hz : Zc cls d oe) (hg : (X.suite a ((a, oe) :: pn)).A.guards = some []) (hu : (X.suite a ((a, oe) :: pn)).A.units + 99 < cLine) : CallR (X.suite a ((a, oe) :: pn)) (.builtin "repr") (rReprD X.K) :=
  call_reprD hg hu
end Ah

/-! the claim's call with tables of code objects; lambdas handed to a def -/
namespace Ah
open PySem PySem.Spec PyProof.Rows L2 He LamX
/-- the tables of the defs that make lambdas, below the running heap -/
abbrev Tbs (base : Heap) (mg : Str → Option Value) (cs : List (Addr × Addr)) : Prop := ∀ p ∈ cs, TabB base mg p.1 p.2
def LawOkT (P : Program) (w : World) (K : Frag) (mg : Str → Option Value) (cs : List (Addr × Addr)) (k : Nat) (fa : Addr) (sp : Sp) : Prop :=
  ∀ (base : Heap), Tbs base mg cs → ∀ (A : Around) (outer : List Env) (s : Shared) (H : Hp) (u : Value) (v : V) (Q : VK) (E : XK), Rm k A → Env0 P w K mg base A outer s H → RelV v u → sp [v] H Q E →
    codeAny (model P w) A (.call (.ref fa) ⟨[u], []⟩) (CR L2.CX0 outer P w H s Q E) s
theorem okLawT {P : Program} {w : World} {K : Frag} {mg : Str → Option Value} {cs : List (Addr × Addr)} {N : List Str} {x : Str} {k : Nat} {sp : Sp} {d : DefG} (S : Stands K d) (h0 : d.dfl = []) (sc : FnScope N [x] d.scope)
    (hb : ∀ (kV doc pm : Value) (an : Option Addr) (cdv ct : Value) (us : List Value), us.length = 1 → bindArgs (PySem.W.fnOf d.name d.qual d.params d.body d.scope .none kV doc pm an cdv ct) ⟨us, []⟩ = pure ([x].zip us))
    (hbody : ∀ base : Heap, Tbs base mg cs → BodyB L2.CX0 P w K mg base N d k sp) : LawOkT P w K mg cs (k + 1) (d.ad K) sp := by
  obtain ⟨fd, F⟩ := S
  have e : d.dvs K = [] := by unfold DefG.dvs; rw [h0]; rfl
  rw [e] at F
  have b := FunD.bindsA (ps := [x]) F hb
  exact fun base tb A outer s H u v Q E hr e0 r hsp => body_run F sc (hbody base tb) hr e0 (b s [u] rfl) rfl (.cons r .nil) hsp
section
variable {P : Program} {w : World} {K : Frag} {mg mb : Str → Option Value} {k : Nat} {fa a : Addr} {cs : List (Addr × Addr)} {sp : Sp} {s : Shared} {vs : List Value} {ns : List Int} {H : Hp}
/-- what the claim's call finds -/
structure Found (K : Frag) (mg mb : Str → Option Value) (cs : List (Addr × Addr)) (a : Addr) (vs : List Value) (s : Shared) : Prop where
  KX : K.In s.heap
  ns : s.heap.Ns mainGlobals mg
  bn : s.heap.Ns builtinsNs mb
  bb : ∀ x : Str, x ≠ "__name__" → mb x = bootBuiltins x
  lim : s.heap.NoLimit
  gen : s.gens = #[]
  tab : ∀ p ∈ cs, s.heap.get? p.2 = some { cls := .none, data := .fields #[] }
  out : ∀ p ∈ cs, K.lookup p.2 = none
  hd : ∀ p ∈ cs, PySem.W.CodeHd s.heap p.1 p.2
  bm : ∃ (bm : Addr) (ob : Obj), mg "__builtins__" = some (.ref bm) ∧ bm ≠ builtinsNs ∧ s.heap.get? bm = some ob ∧ ob.cls = .type "module" ∧ ob.dict = some builtinsNs ∧ ob.data = .plain
  at_ : s.heap.get? a = some { cls := .type "list", data := .seq vs.toArray }
/-- only the script and the tables are tracked -/
structure Track (P : Program) (w : World) (K : Frag) (cs : List (Addr × Addr)) (a : Addr) (s : Shared) (H : Hp) : Prop where
  tb : ∀ p ∈ cs, H p.2 = some (.tbl #[])
  only : ∀ b, H b = none ∨ b ∈ cs.map (·.2) ∨ (b = a ∧ K.lookup a = none ∧ ∃ o xs, H b = some (.frz o (.lst xs)))
  ok : HOk P w H s.heap
theorem Found.isT (F : Found K mg mb cs a vs s) {b : Addr} (hb : b ∈ cs.map (·.2)) : s.heap.get? b = some { cls := .none, data := .fields #[] } := by
  obtain ⟨p, hp, e⟩ := List.mem_map.mp hb
  subst e
  exact F.tab p hp
/-- an object of another make is not tracked -/
theorem Found.off (F : Found K mg mb cs a vs s) (T : Track P w K cs a s H) {b : Addr} {o : Obj} (e : s.heap.get? b = some o) (h1 : ∀ l n, o.data ≠ .seq l n) (h2 : o.data ≠ .fields #[]) : H b = none := by
  rcases T.only b with z | z | ⟨z, _⟩
  · exact z
  · rw [F.isT z] at e
    cases e
    exact absurd rfl h2
  · subst z
    rw [F.at_] at e
    cases e
    exact absurd rfl (h1 _ _)
theorem Found.low (F : Found K mg mb cs a vs s) (T : Track P w K cs a s H) {b : Addr} {o : Obj} (e : s.heap.get? b = some o) (h1 : ∀ l n, o.data ≠ .seq l n) (h2 : o.data ≠ .fields #[]) : (hidT s.heap H).get? b = some o := hidT_get e (F.off T e h1 h2)
theorem Found.lowNs (F : Found K mg mb cs a vs s) (T : Track P w K cs a s H) {b : Addr} {m : Str → Option Value} (h : s.heap.Ns b m) : (hidT s.heap H).Ns b m := by
  obtain ⟨o, es, ep, e, d, r⟩ := h
  exact ⟨o, es, ep, F.low T e (fun l n z => by rw [d] at z; cases z) (fun z => by rw [d] at z; cases z), d, r⟩
theorem Found.env (F : Found K mg mb cs a vs s) (T : Track P w K cs a s H) : Env0 P w K mg (hidT s.heap H) callerA [] s H := by
  obtain ⟨mc, l1, l2⟩ := F.lim
  refine ⟨rfl, ⟨fun b o e => hidT_get (F.KX b o e) ?_, F.lowNs T F.ns, ⟨mb, F.lowNs T F.bn, F.bb⟩, ⟨mc, F.lowNs T l1, l2⟩⟩, fun b o e => of_hidT e, Nat.le_of_eq (hidT_size _ _), trivial, fun b hb => absurd (show b ∈ ([] : List Addr) from hb) List.not_mem_nil, T.ok, .of_eq F.gen⟩
  rcases T.only b with z | z | ⟨z, k, _⟩
  · exact z
  · obtain ⟨p, hp, ep⟩ := List.mem_map.mp z
    subst ep
    rw [F.out p hp] at e
    cases e
  · subst z
    rw [k] at e
    cases e
theorem Found.tabs (F : Found K mg mb cs a vs s) (T : Track P w K cs a s H) : Tbs (hidT s.heap H) mg cs := fun p hp => by
  have hTp := F.tab p hp
  refine ⟨?_, ?_, fun z => ?_⟩
  · obtain ⟨o, us, file, tf, flags, tg, inF, text, tt, e1, r1, r2, r3, r4, r5, r6, r7, r8, hne⟩ := F.hd p hp
    refine ⟨o, us, file, tf, flags, tg, inF, text, tt, F.low T e1 (fun l n z => ?_) (fun z => ?_), r1, r2, r3, r4, r5, r6, r7, r8, hne⟩
    · rw [r2] at z
      cases z
    · rw [r2] at z
      cases z
      simp at r3
  · obtain ⟨bm, ob, b1, b2, b3, b4, b5, b6⟩ := F.bm
    refine ⟨bm, ob, b1, b2, fun q => ?_, fun q => ?_, F.low T b3 (fun l n z => by rw [b6] at z; cases z) (fun z => by rw [b6] at z; cases z), b4, b5, b6⟩
    · obtain ⟨o, es, ep, e, hd, _⟩ := F.ns
      subst q
      rw [e] at b3
      cases b3
      rw [hd] at b6
      cases b6
    · subst q
      rw [hTp] at b3
      cases b3
      cases b6
  · obtain ⟨o, es, ep, e, hd, _⟩ := F.ns
    rw [z, hTp] at e
    cases e
    cases hd
theorem Found.run (F : Found K mg mb cs a vs s) (T : Track P w K cs a s H) (hr : Room k callerA) (L : LawOkT P w K mg cs k fa sp) (hsp : sp [.ref a] H (fun v _ => v = .bl true) fun _ _ _ => False) :
    codeAny (model P w) callerA (.call (.ref fa) ⟨[.ref a], []⟩) (fun r s' => r = .ok (.ret (.bool true)) ∧ OldK s.heap s'.heap ∧ s'.os = s.os ∧ AllBare s'.gens) s := by
  refine codeAny_mono (L _ (F.tabs T) callerA [] s H (.ref a) (.ref a) _ _ ⟨hr, rfl⟩ (F.env T) rfl hsp) fun r s' h => ?_
  match r, h with
  | .ok (.ret u), ⟨v, H', os, bare, un, hok', r', q⟩ =>
    cases (show v = .bl true from q)
    cases (show u = Value.bool true from r')
    have key : ∀ b o, b ∉ cs.map (·.2) → s.heap.get? b = some o → s'.heap.get? b = some o := fun b o nb e => by
      rcases T.only b with z | z | ⟨_, _, ob, xs, z⟩
      · exact un.keep b o e z (fun y => absurd (show b ∈ ([] : List Addr) from y) List.not_mem_nil) List.not_mem_nil
      · exact absurd z nb
      · have e1 := (T.ok b _ z).1
        rw [e] at e1
        cases e1
        exact (hok' b _ (un.frzs b _ _ z)).1
    have grown : ∀ p ∈ cs, ∃ more : Array Value, s'.heap.get? p.2 = some { cls := .none, data := .fields more } := fun p hp => by
      obtain ⟨more, z⟩ := un.tbls p.2 #[] (T.tb p hp)
      exact ⟨_, hok' p.2 _ z⟩
    refine ⟨rfl, ⟨fun b o e => ?_, fun b o e => ?_⟩, os, bare⟩
    · by_cases hb : b ∈ cs.map (·.2)
      · obtain ⟨p, hp, ep⟩ := List.mem_map.mp hb
        subst ep
        obtain ⟨more, hm⟩ := grown p hp
        rw [F.tab p hp] at e
        cases e
        exact .inr (.inl ⟨((F.hd p hp).tab (F.tab p hp)).isCodeTable, rfl, #[], more, rfl, by rw [Array.empty_append]; exact hm⟩)
      · exact .inl (key b o hb e)
    · by_cases hb : b ∈ cs.map (·.2)
      · obtain ⟨p, hp, ep⟩ := List.mem_map.mp hb
        subst ep
        obtain ⟨more, hm⟩ := grown p hp
        exact ⟨_, hm⟩
      · exact ⟨o, key b o hb e⟩
theorem Found.call (F : Found K mg mb cs a vs s) (hi : IntsAre vs ns) (hl : ns.length ≤ sizeLine) (hr : Room k callerA) (L : LawOkT P w K mg cs k fa sp)
    (hsp : ∀ H : Hp, (∀ p ∈ cs, H p.2 = some (.tbl #[])) → SqL K H a (ns.map V.int) → sp [.ref a] H (fun v _ => v = .bl true) fun _ _ _ => False) :
    codeAny (model P w) callerA (.call (.ref fa) ⟨[.ref a], []⟩) (fun r s' => r = .ok (.ret (.bool true)) ∧ OldK s.heap s'.heap ∧ s'.os = s.os ∧ AllBare s'.gens) s := by
  have rv := vals_ints hi
  have lenV := hi.length
  have aT : a ∉ cs.map (·.2) := fun z => by
    have q := F.isT z
    rw [F.at_] at q
    have z' : Data.seq vs.toArray _ = Data.fields #[] := congrArg Obj.data (Option.some.inj q)
    cases z'
  have mem : ∀ p ∈ cs, p.2 ∈ cs.map (·.2) := fun p hp => List.mem_map.mpr ⟨p, hp, rfl⟩
  cases hk : K.lookup a with
  | some o =>
    have e := F.KX a o hk
    rw [F.at_] at e
    cases e
    let H : Hp := fun b => if b ∈ cs.map (·.2) then some (.tbl #[]) else none
    have T : Track P w K cs a s H := ⟨fun p hp => if_pos (mem p hp), fun b => by
        by_cases hb : b ∈ cs.map (·.2)
        · exact .inr (.inl hb)
        · exact .inl (if_neg hb), fun b u z => by
        by_cases hb : b ∈ cs.map (·.2)
        · cases ((if_pos hb).symm.trans z : some (HO.tbl #[]) = some u)
          exact F.isT hb
        · cases ((if_neg hb).symm.trans z : none = some u)⟩
    exact F.run T hr L (hsp H T.tb (.inr ⟨_, vs.toArray, _, hk, rfl, rfl, rfl, by rw [List.size_toArray, lenV]; exact hl, by simpa using rv⟩))
  | none =>
    let H : Hp := fun b => if b = a then some (.frz { cls := .type "list", data := .seq vs.toArray } (.lst (ns.map V.int))) else if b ∈ cs.map (·.2) then some (.tbl #[]) else none
    have at_ : H a = some (.frz { cls := .type "list", data := .seq vs.toArray } (.lst (ns.map V.int))) := if_pos rfl
    have tb : ∀ b, b ∈ cs.map (·.2) → H b = some (.tbl #[]) := fun b hb => (if_neg (show ¬ b = a from fun z => aT (z ▸ hb))).trans (if_pos hb)
    have off : ∀ b, b ≠ a → b ∉ cs.map (·.2) → H b = none := fun b h1 h2 => (if_neg h1).trans (if_neg h2)
    have T : Track P w K cs a s H := ⟨fun p hp => tb _ (mem p hp), fun b => by
        by_cases hb : b = a
        · subst hb
          exact .inr (.inr ⟨rfl, hk, _, _, at_⟩)
        · by_cases h2 : b ∈ cs.map (·.2)
          · exact .inr (.inl h2)
          · exact .inl (off b hb h2), fun b u z => by
        by_cases hb : b = a
        · subst hb
          rw [at_] at z
          cases z
          exact ⟨F.at_, by rw [List.length_map]; exact hl, vs, _, rv, F.at_⟩
        · by_cases h2 : b ∈ cs.map (·.2)
          · rw [tb b h2] at z
            cases z
            exact F.isT h2
          · rw [off b hb h2] at z
            cases z⟩
    exact F.run T hr L (hsp H T.tb (.inl (.inr ⟨_, at_⟩)))
end
/-- a law's end, with tables -/
theorem law_walkT {l : PySem.W.OpenLaw} {n k : Nat} {q : Program} {loose : List Str} {XP : (Str → Option Value) → Heap → Prop} {YP : World → Heap → Prop} {d : DefRec}
    (hn : l.most = some n) (hn2 : n ≤ sizeLine) (hdf : d.params.defaults = []) (hr : Room k callerA)
    (F : ∀ (w : World) (mg : Str → Option Value) (fa : Addr) (h : Heap), YP w h → h.Ns mainGlobals mg → mg d.name = some (.ref fa) →
      ∃ (K : Frag) (cs : List (Addr × Addr)) (sp : Sp), K.In h ∧ (∀ p ∈ cs, h.get? p.2 = some { cls := .none, data := .fields #[] }) ∧ (∀ p ∈ cs, K.lookup p.2 = none) ∧ (∀ p ∈ cs, PySem.W.CodeHd h p.1 p.2) ∧
        (∀ (H : Hp) (a : Addr) (ns : List Int), ns.length ≤ n → (∀ z ∈ ns, Builtin.Int.intBits z ≤ 1048576) → (∀ p ∈ cs, H p.2 = some (.tbl #[])) → SqL K H a (ns.map V.int) → sp [.ref a] H (fun v _ => v = .bl true) fun _ _ _ => False) ∧ LawOkT l.prog w K mg cs k fa sp) :
    PySem.W.WalkO q loose XP YP l.row.toRowW d [] (fun f vs => PySem.call f vs) := by
  refine Att.attach_callB hn hdf fun w s₀ s₁ mg mb fa o pm cd doc a vs ns G Y ho hd hcd hmg hobj hints hlen hbits hg => ?_
  obtain ⟨K, cs, sp, KX, h1, h2, h3, hsp, hF⟩ := F w mg fa _ Y G.T.g hmg
  exact Found.call ⟨KX, G.T.g, G.T.b, G.T.builtins, G.T.nolimit, hg, h1, h2, h3, G.T.bmain, hobj⟩ hints (Nat.le_trans hlen hn2) hr hF fun H hH hS => hsp H a ns hlen hbits hH hS
end Ah

/-! x(lambda: body), x a def of the text that calls what it got -/
namespace Ah
open PySem PySem.Spec PyProof.Rows L2 He LamX
theorem body_runS {P : Program} {w : World} {K : Frag} {mg : Str → Option Value} {base : Heap} {CX : CXT} {N ps : List Str} {k : Nat} {d : DefG} {fd : FuncData} {dvs : List V} {kws : List (Str × V)} (F : FunD K d.name d.qual d.params d.body d.scope dvs kws (d.ad K) fd) (S : FnScope N ps d.scope)
    {A : Around} {outer : List Env} {s : Shared} {H : Hp} {args : Args} {us : List Value} {vs : List V} {Q : VK} {E : XK} (hr : Rm (k + 1) A) (e0 : Env0 P w K mg base A outer s H) (hb : BindsTo s fd args (ps.zip us)) (hl : vs.length = ps.length) (r : Vals vs us)
    (hbody : Rm k (A.deeper (envOfC d.qual d.scope s.heap.objs.size (d.ad K) (CodeV K (d.ad K)))) →
      ∃ t, PSs (cxOf CX P w K mg base N d.qual d.scope (d.ad K) (CodeV K (d.ad K)) A outer s H E) d.body t ∧ t { nx := fun _ H' => Q .non H', rt := Q } (L2.start N vs) H) :
    codeAny (model P w) A (.call (.ref (d.ad K)) args) (CR CX outer P w H s Q E) s := by
  obtain ⟨oc, od, dV, kV, doc, pm, an, cdv, ct, osl, rfl, lk, hcd, _, _⟩ := F.ex
  have ec : CodeV K (d.ad K) = cdv := by
    unfold CodeV
    rw [lk]
  subst ec
  exact run_ofS lk hcd S hr.r e0 hb r hl fun _ => hbody ⟨hr.r.deeper _, hr.g⟩
section
variable {X : Cx} {pins : List (Addr × Obj)} {σ : L2.St} {H HZ : Hp} {s s1 : Shared}
/-- the call of the lambda, in the def that got it: Z is that def's context, entered at s -/
theorem pe_actG {Ng : List Str} {dg : DefG} {f c' : Addr} {cdg pm ctv : Value} {params : Arguments} {body : Expr} {scope : Scope} {k i : Nat} {a : Str} {pn : List (Addr × Obj)} {xe : Value → Shared → Prop} {W : WX} {E : XK} {tb : TE} {p1 p2 : Pos}
    (I : L2.Inv X pins σ H s) (L : LamS X.env.scope scope) (hf : s.heap.get? f = some (PySem.W.kla_obj "<lambda>" (X.env.qual ++ "<lambda>") params body scope (cloFrom X.env.cells scope.names []) pm c' ctv)) (hfn : H f = none) (hfr : f ∉ frs X.stack)
    (hbind : bindArgs (PySem.W.kla_fn "<lambda>" (X.env.qual ++ "<lambda>") params body scope (cloFrom X.env.cells scope.names []) pm (.ref c') ctv) ⟨[], []⟩ = pure [])
    (tk : Takes ((cxOf L2.CX0 X.prog X.w X.K X.mg X.base Ng dg.qual dg.scope (dg.ad X.K) cdg X.A X.stack s H L2.E0).tr pn xe) W) (hW : ∀ cls d σ' H', E cls d H' → W cls d σ' H') (hr : Rm (k + 1) (X.A.deeper (envOfC dg.qual dg.scope s.heap.objs.size (dg.ad X.K) cdg)))
    (hbody : ∀ (A : Around) (outer : List Env) (s : Shared) (H : Hp), Rm k (A.deeper (lamEnv X scope s.heap.objs.size f c')) → PE (lamCx X A outer s H E scope f c') body tb)
    (hN : Ng[i]? = some a) (hv : Vis dg.scope a) (hd : (a == ("__debug__" : Str)) = false := by decide) (hcd : (a == ("__classdict__" : Str)) = false := by decide) :
    PE ((cxOf L2.CX0 X.prog X.w X.K X.mg X.base Ng dg.qual dg.scope (dg.ad X.K) cdg X.A X.stack s H L2.E0).tr pn xe) (.Call (.Name a p1) [] [] p2)
      (fun σZ HZ Q => σZ[i]? = some (some (.ref f)) ∧ HZ c' = some (CodeO c' (X.env.qual ++ "<lambda>")) ∧ tb σ HZ Q) := by
  refine ⟨fun pinsZ sZ σZ HZ Q IZ h => ?_⟩
  obtain ⟨hs, hc, ht⟩ := h
  refine wpAny_Call_Name_kw (thn ((pe_var (pos := p1) (i := i) hN hv hd hcd).run pinsZ sZ σZ HZ (fun v H1 => v = .ref f ∧ H1 = HZ) IZ ⟨.ref f, hs, rfl, rfl⟩) fun u s1 ⟨v, H1, I1, r1, ev, eH⟩ => ?_)
  subst ev
  rw [eH] at I1
  cases (show u = Value.ref f from r1)
  have of1 : s1.heap.get? f = some (PySem.W.kla_obj "<lambda>" (X.env.qual ++ "<lambda>") params body scope (cloFrom X.env.cells scope.names []) pm c' ctv) := I1.base.keep f _ hf hfn hfr (fun z => nomatch (show f ∈ ([] : List Addr) from z))
  refine PySem.W.callWith_F0 ⟨_, _, _, _, of1⟩ ?_
  obtain ⟨⟨oc, vs, t, hoc, hdc, hvc⟩, _, _⟩ := I1.hok c' _ hc
  have rc : codeAny (model X.prog X.w) (X.A.deeper (envOfC dg.qual dg.scope s.heap.objs.size (dg.ad X.K) cdg)) (.call (.ref f) ⟨[], []⟩) (CR (L2.CX X.prog X.w) (envOfC dg.qual dg.scope s.heap.objs.size (dg.ad X.K) cdg :: X.stack) X.prog X.w HZ s1 Q E) s1 := by
    refine PySem.W.kla_callFunE hr.r.depth of1 rfl L.co L.gen rfl ⟨c', oc, vs, t, rfl, hoc, hdc, hvc⟩ ?_
    rw [hbind]
    refine wpAny_pure (wpAny_newFunctionEnv (fun y hy => (L.own y hy).2) (fun y hy => absurd hy (by simp)) (fun h₁ hns hsb => ⟨I1.nolimit.fresh _ hsb, ?_⟩) L.kind)
    have kp : ∀ b o, s1.heap.get? b = some o → h₁.get? b = some o := fun b o e => hsb.extBut b o (Nat.ne_of_lt (Heap.lt_size e)) (Heap.get?_push_of_some _ e)
    have J := lam_start2 (E := E) (f := f) (c' := c') (tk := s1.toks + ([] : List (Str × Value)).length) I L I1.env0 hr.r.hd I1.base hns kp
    have hr2 : Rm k ((X.A.deeper (envOfC dg.qual dg.scope s.heap.objs.size (dg.ad X.K) cdg)).deeper (lamEnv X scope s1.heap.objs.size f c')) := ⟨hr.r.deeper _, hr.g⟩
    refine PySem.W.kla_codeExpr (wpAny_mono ((hbody _ _ s1 HZ hr2).run [] _ _ HZ Q J ht) (fun v s' hq => ?_) fun e s' hq => hq)
    obtain ⟨w', H', J', rv, q⟩ := hq
    exact ⟨w', H', J'.os, J'.bare, J'.base, J'.hok, rv, q⟩
  have hx : Passes (L2.CX X.prog X.w) ((cxOf L2.CX0 X.prog X.w X.K X.mg X.base Ng dg.qual dg.scope (dg.ad X.K) cdg X.A X.stack s H L2.E0).tr pn xe) E := passes_call tk hW
  refine wpAny_call (codeAny_mono rc fun r s' hq => ?_)
  match r, hq with
  | .error e, hq => exact hx pinsZ σZ HZ s1 e s' I1 hq
  | .ok (.ret u), hq => exact I1.after hq
end
/-- the def dg that calls what it got, by the name a: TT, what it makes of the lambda's reading -/
def GivesG (X : Cx) (dg : DefG) (Ng : List Str) (k : Nat) (a : Str) (q : Str) (TT : (XK → Hp → VK → Prop) → Hp → VK → Prop) : Prop :=
  ∀ (cdg : Value) (f c' : Addr) (s : Shared) (H : Hp) (Q : VK) (tl : XK → Hp → VK → Prop), Rm k (X.A.deeper (envOfC dg.qual dg.scope s.heap.objs.size (dg.ad X.K) cdg)) →
    (∀ (W : WX) (pn : List (Addr × Obj)) (xe : Value → Shared → Prop) (E : XK) (p1 p2 : Pos), Takes ((cxOf L2.CX0 X.prog X.w X.K X.mg X.base Ng dg.qual dg.scope (dg.ad X.K) cdg X.A X.stack s H L2.E0).tr pn xe) W → (∀ cls d σ' H', E cls d H' → W cls d σ' H') →
      PE ((cxOf L2.CX0 X.prog X.w X.K X.mg X.base Ng dg.qual dg.scope (dg.ad X.K) cdg X.A X.stack s H L2.E0).tr pn xe) (.Call (.Name a p1) [] [] p2) (fun σZ HZ Q => σZ[0]? = some (some (.ref f)) ∧ HZ c' = some (CodeO c' q) ∧ tl E HZ Q)) →
    H c' = some (CodeO c' q) → TT tl H Q →
    ∃ t, PSs (cxOf L2.CX0 X.prog X.w X.K X.mg X.base Ng dg.qual dg.scope (dg.ad X.K) cdg X.A X.stack s H L2.E0).nox dg.body t ∧ t { nx := fun _ H' => Q .non H', rt := Q } (L2.start Ng [.ref f]) H
section
variable {X : Cx}
/-- x(lambda: body) -/
theorem pe_lamG {T : List (Addr × Str)} {TT : (XK → Hp → VK → Prop) → Hp → VK → Prop} {x a : Str} {dg : DefG} {c P : Addr} {k j : Nat} {Ng : List Str} {params : Arguments} {body : Expr} {scope : Scope} {t : XK → TE} {p lpos pos : Pos}
    (S : Stands X.K dg) (h0 : dg.dfl = []) (hm : X.mg x = some (.ref (dg.ad X.K))) (Sg : FnScope Ng [a] dg.scope)
    (hb : ∀ (kV doc pm : Value) (an : Option Addr) (cdv ct : Value) (us : List Value), us.length = 1 → bindArgs (PySem.W.fnOf dg.name dg.qual dg.params dg.body dg.scope .none kV doc pm an cdv ct) ⟨us, []⟩ = pure ([a].zip us))
    (hNg : Ng[0]? = some a) (hva : Vis dg.scope a) (hG : GivesG X dg Ng (k + 1) a (X.env.qual ++ "<lambda>") TT)
    (TB : TabB X.base X.mg c P) (hcode : X.env.code = .ref c) (hmT : (P, X.env.qual ++ "<lambda>") ∈ T) (hu : ∀ p ∈ T, p.1 = P → p.2 = X.env.qual ++ "<lambda>") (hr : Rm j X.A) (L : LamS X.env.scope scope)
    (hbody : ∀ (A : Around) (outer : List Env) (s : Shared) (H : Hp) (E : XK) (f c' : Addr), Rm k (A.deeper (lamEnv X scope s.heap.objs.size f c')) → PE (lamCx X A outer s H E scope f c') body (t E))
    (hk : k + 2 ≤ j := by decide) (hg : Gl X x := by rfl) (hdef : defaultsOf params X.env = ([], []) := by rfl)
    (hbind : ∀ (q : Str) (cl : List (Str × Addr)) (pm cv ctv : Value), bindArgs (PySem.W.kla_fn "<lambda>" q params body scope cl pm cv ctv) ⟨[], []⟩ = pure [] := by intro _ _ _ _ _; rfl)
    (hdb : (x == ("__debug__" : Str)) = false := by decide) (hd : (a == ("__debug__" : Str)) = false := by decide) (hcd : (a == ("__classdict__" : Str)) = false := by decide) :
    PE X (.Call (.Name x p) [.Lambda params body scope lpos] [] pos) (tLam T TT t) := by
  obtain ⟨fd, F⟩ := S
  have e : dg.dvs X.K = [] := by unfold DefG.dvs; rw [h0]; rfl
  rw [e] at F
  refine ⟨fun pins s σ H Q I h => ?_⟩
  obtain ⟨hT, h⟩ := h
  refine wpAny_Call_Name_kw (ld_glob I hg hm ?_ hdb)
  refine PySem.W.callWith_K (h₀ := X.base) I.ok.mod.kin F.kp ?_ (by rfl) (by rfl)
  show wpAny _ _ (spliced ((false, eval (.Lambda params body scope lpos) X.env) :: backTo pos (starEach [] X.env))) _ _ s
  refine Calls.spliced_cons (lam_make2 I TB hcode hmT hu hT hdef (L.has I.ok) fun f c' pm' ctv H1 s' I1 eN T1 hf hfn hfr hco => ?_)
  refine Calls.spliced_nil ⟨I1.kIn, ?_⟩
  have rc : codeAny (model X.prog X.w) X.A (.call (.ref (dg.ad X.K)) ⟨[.ref f], []⟩) (CR L2.CX0 X.stack X.prog X.w H1 s' Q L2.E0) s' := by
    refine body_runS (k := k + 1) (us := [.ref f]) (vs := [.ref f]) F Sg (hr.mono hk) I1.env0 (FunD.bindsA (ps := [a]) F hb s' [.ref f] rfl) rfl (.cons rfl .nil) fun hr' => ?_
    obtain ⟨t', ht', hq'⟩ := hG _ f c' s' H1 Q (fun E H' Q' => t E σ H' Q') hr' (fun W pn xe E p1 p2 tk hW => pe_actG (i := 0) I1 L hf hfn hfr (hbind _ _ _ _ _) tk hW hr' (fun A outer s H hr2 => hbody A outer s H E f c' hr2) hNg hva hd hcd) hco (h H1 eN T1)
    exact ⟨t', ht'.nox, hq'⟩
  refine wpAny_call (codeAny_mono rc fun r s2 hq => ?_)
  match r, hq with
  | .ok (.ret u), hq => exact I1.after hq
end
/-- the name of the lambdas of the def d -/
def qOf (d : DefG) : Str := (envOfC d.qual d.scope 0 0 .none).qual ++ Str.ofString "<lambda>"
end Ah

/-! points: pairs of a number and a text, and their order -/
namespace Ah
open PySem PySem.Spec PyProof.Rows L2 He
abbrev Pt : Type := Int × Str
def ptD (p : Pt) : PyData := .tuple [.int p.1, .str p.2]
/-- a point's pair stands at a -/
def PtAt (H : Hp) (a : Addr) (p : Pt) : Prop := H a = some (.tup [.int p.1, .str p.2])
theorem PtAt.same {H H' : Hp} {a : Addr} {p : Pt} (h : PtAt H a p) (s : Same H H') : PtAt H' a p := s _ _ h
theorem PtAt.dp {K : Frag} {H : Hp} {a : Addr} {p : Pt} (h : PtAt H a p) : Dp K H (.ref a) (ptD p) := .tup (SqT.of h) (.cons (.int _) (.cons (.str _) .nil))
def ptLt (p q : Pt) : Bool := PySem.W.dataLt (ptD p) (ptD q)
theorem ptLt_eq (p q : Pt) : ptLt p q = (decide (p.1 < q.1) || (decide (p.1 = q.1) && decide (p.2.cps.toList < q.2.cps.toList))) := by
  obtain ⟨n, z⟩ := p
  obtain ⟨m, y⟩ := q
  show PyProof.Rows.lexLt PyProof.Rows.itemOrd [.inl 1, .inl n, .inl 1, .inr z.cps.toList, .inl 0] [.inl 1, .inl m, .inl 1, .inr y.cps.toList, .inl 0] = _
  have i1 : PyProof.Rows.itemOrd.blt (.inl 1) (.inl 1) = false := rfl
  have i0 : PyProof.Rows.itemOrd.blt (.inl 0) (.inl 0) = false := rfl
  have e1 : PyProof.Rows.itemOrd.blt (.inl n) (.inl m) = decide (n < m) := rfl
  have e2 : PyProof.Rows.itemOrd.blt (.inl m) (.inl n) = decide (m < n) := rfl
  have e3 : PyProof.Rows.itemOrd.blt (.inr z.cps.toList) (.inr y.cps.toList) = decide (z.cps.toList < y.cps.toList) := rfl
  have e4 : PyProof.Rows.itemOrd.blt (.inr y.cps.toList) (.inr z.cps.toList) = decide (y.cps.toList < z.cps.toList) := rfl
  have en : PyProof.Rows.lexLt PyProof.Rows.itemOrd ([] : List (Int ⊕ List Nat)) [] = false := rfl
  rw [lex_cons, lex_cons, lex_cons, lex_cons, lex_cons, i1, i0, e1, e2, e3, e4, en]
  by_cases h1 : n < m
  · simp [h1]
  · by_cases h2 : m < n
    · simp [h1, h2, show n ≠ m by omega]
    · simp [h1, h2, show n = m by omega]
theorem ptLt_irrefl (p : Pt) : ptLt p p = false := by
  rw [ptLt_eq]
  simp
theorem ptLt_asymm {p q : Pt} (h : ptLt p q = true) : ptLt q p = false := by
  cases e : ptLt q p with
  | false => rfl
  | true =>
    have z := (listOrd itemOrd).trans (PySem.W.keyToks (ptD p)) (PySem.W.keyToks (ptD q)) (PySem.W.keyToks (ptD p)) h e
    exact absurd ((ptLt_irrefl p).symm.trans z) Bool.false_ne_true
theorem ptLt_trans {p q r : Pt} (h : ptLt p q = true) (h' : ptLt q r = true) : ptLt p r = true := (listOrd itemOrd).trans (PySem.W.keyToks (ptD p)) (PySem.W.keyToks (ptD q)) (PySem.W.keyToks (ptD r)) h h'
theorem ptLt_total {p q : Pt} (h : ptLt p q = false) (h' : ptLt q p = false) : p = q := by
  rw [ptLt_eq] at h h'
  obtain ⟨n, z⟩ := p
  obtain ⟨m, y⟩ := q
  simp only [Bool.or_eq_false_iff, Bool.and_eq_false_iff, decide_eq_false_iff_not] at h h'
  have e : n = m := by omega
  subst e
  have e2 : z.cps.toList = y.cps.toList := List.le_antisymm (List.not_lt.mp (h'.2.resolve_left (by simp))) (List.not_lt.mp (h.2.resolve_left (by simp)))
  rw [PySem.W.str_of_cps e2]
theorem pt_alike (p q : Pt) : PySem.W.alike (ptD p) (ptD q) = true := rfl
section
variable {X : Cx} {k : Nat}
def rPt (f : Pt → Pt → Bool) : V → V → Hp → VK → Prop := fun x y H Q => ∃ (a b : Addr) (p q : Pt), x = .ref a ∧ y = .ref b ∧ PtAt H a p ∧ PtAt H b q ∧ Q (.bl (f p q)) H
theorem op_ltP (hu : X.A.units + 64 < cLine) : OpR X (compareOp .Lt) (rPt ptLt) := by
  intro pins s σ H x y v u Q I rx ry h
  obtain ⟨a, b, p, q, rfl, rfl, hp, hq, k⟩ := h
  obtain ⟨as, r1⟩ := Dp.reads I _ _ v hp.dp rx
  obtain ⟨bs, r2⟩ := Dp.reads I _ _ u hq.dp ry
  exact PySem.W.lt_data r1 r2 (pt_alike p q) (by intro z; cases z) (by simp [ptD, PyData.depth, PyData.depthAll]; omega) ⟨.bl _, H, I, rfl, k⟩
end
/-! is_point -/
def textOk (l : List Nat) : Bool := if l.getLast? = some 33 then isKeyL l.dropLast else isKeyL l
/-- is_point of a pair, by the kinds of its items -/
def ptK (ku kt : Kn) : Bool := ku.within 0 4294967296 && (match kt with
  | .str z => z.cps.toList.isEmpty || ((match ku with | .int i => !decide (i = 4294967296) | _ => true) && textOk z.cps.toList)
  | _ => false)
theorem ptK_is (i : Int) (z : Str) : ptK (.int i) (.str z) = ((Kn.int i).within 0 4294967296 && (z.cps.toList.isEmpty || (!decide (i = 4294967296) && textOk z.cps.toList))) := rfl
theorem textOk_snoc (l : List Nat) (c : Nat) : textOk (l ++ [c]) = if c = 33 then isKeyL l else isKeyL (l ++ [c]) := by
  unfold textOk
  simp
/-- is_point(x) is b -/
inductive PtV (K : Frag) (H : Hp) : V → Bool → Prop
  | no {x : V} {k : Kn} (h : Is K H x k) (hk : k.isT "tuple" = false) : PtV K H x false
  | len {a : Addr} {l : List V} (e : H a = some (.tup l)) (hl : l.length ≠ 2) (hm : l.length ≤ 1000) : PtV K H (.ref a) false
  | two {a : Addr} {u t : V} {ku kt : Kn} (e : H a = some (.tup [u, t])) (hu : Is K H u ku) (ht : Is K H t kt) (hs : kt.small) : PtV K H (.ref a) (ptK ku kt)
theorem PtV.same {K : Frag} {H H' : Hp} {x : V} {b : Bool} (h : PtV K H x b) (s : Same H H') : PtV K H' x b := by
  cases h with
  | no h hk => exact .no (h.same s) hk
  | len e hl hm => exact .len (s _ _ e) hl hm
  | two e hu ht hs => exact .two (s _ _ e) (hu.same s) (ht.same s) hs
/-- a point by its parts -/
def isPt (p : Pt) : Bool := ptK (.int p.1) (.str p.2)
theorem PtAt.ptv {K : Frag} {H : Hp} {a : Addr} {p : Pt} (h : PtAt H a p) (hp : isPt p = true) (hs : p.2.length ≤ 1000000) : PtV K H (.ref a) true := by
  have z : PtV K H (.ref a) (ptK (.int p.1) (.str p.2)) := .two h (.int _) (.str _) hs
  rw [show ptK (.int p.1) (.str p.2) = true from hp] at z
  exact z
/-- an error of the class C with one field goes out, over the heap H -/
def Out1 (K : Frag) (E : XK) (H : Hp) (C f : Str) (v : V) : Prop := ∀ (H' : Hp) (d : Addr), Same H H' → H' d = some (.xd [(f, v)]) → E (.ref (ga K C)) (some d) H'
def Out2 (K : Frag) (E : XK) (H : Hp) (C f g : Str) (v w : V) : Prop := ∀ (H' : Hp) (d : Addr), Same H H' → H' d = some (.xd [(g, w), (f, v)]) → E (.ref (ga K C)) (some d) H'
theorem Out1.same {K : Frag} {E : XK} {H H' : Hp} {C f : Str} {v : V} (o : Out1 K E H C f v) (s : Same H H') : Out1 K E H' C f v := fun H2 d s2 h => o H2 d (s.trans s2) h
theorem Out2.same {K : Frag} {E : XK} {H H' : Hp} {C f g : Str} {v w : V} (o : Out2 K E H C f g v w) (s : Same H H') : Out2 K E H' C f g v w := fun H2 d s2 h => o H2 d (s.trans s2) h
/-- raise C(v) -/
theorem Out1.mk {K : Frag} {E : XK} {H : Hp} {C f : Str} {v : V} (o : Out1 K E H C f v) {ta : TA} {σ : L2.St} (ha : ∀ Q' : List V → Hp → Prop, Q' [v] H → ta σ H Q') : tMkO (ga K C) (spX1 (ga K C) f) [] ta σ H fun cls d H' => E cls d H' := by
  refine ha _ ⟨by simp, mkX1 fun d hd => o _ d (Same.upd (Same.refl _) hd) upd_same⟩
theorem Out2.mk {K : Frag} {E : XK} {H : Hp} {C f g : Str} {v w : V} (o : Out2 K E H C f g v w) {ta : TA} {σ : L2.St} (ha : ∀ Q' : List V → Hp → Prop, Q' [v, w] H → ta σ H Q') : tMkO (ga K C) (spX2 (ga K C) f g) [] ta σ H fun cls d H' => E cls d H' := by
  refine ha _ ⟨by simp, mkX2 fun d hd => o _ d (Same.upd (Same.refl _) hd) upd_same⟩
/-! arcs -/
def ArcAt (K : Frag) (H : Hp) (x : Addr) (p q : Pt) : Prop := ∃ dx a b : Addr, H x = some (.ins (ga K "Arc") dx [("own_start", .ref a), ("own_end", .ref b)]) ∧ PtAt H a p ∧ PtAt H b q
theorem ArcAt.same {K : Frag} {H H' : Hp} {x : Addr} {p q : Pt} (h : ArcAt K H x p q) (s : Same H H') : ArcAt K H' x p q := by
  obtain ⟨dx, a, b, h1, h2, h3⟩ := h
  exact ⟨dx, a, b, s _ _ h1, s _ _ h2, s _ _ h3⟩
theorem textOk_key {l : List Nat} (h : isKeyL l = true) : textOk l = true := by
  unfold textOk
  split
  · rename_i e
    have m : (33 : Nat) ∈ l := List.mem_of_getLast? e
    unfold isKeyL at h
    have h3 := List.all_eq_true.mp (Bool.and_eq_true_iff.mp h).2 33 m
    exact absurd h3 (by decide)
  · exact h
theorem textOk_behind {z : Str} (h : isKeyL z.cps.toList = true) : textOk (z ++ Str.ofString "!").cps.toList = true := by
  rw [tl_app, show (Str.ofString "!").cps.toList = [33] by decide +kernel, textOk_snoc, if_pos rfl]
  exact h
theorem isPt_of {v : Int} {z : Str} (h0 : 0 ≤ v) (h1 : v < 4294967296) (h : z.cps.toList = [] ∨ textOk z.cps.toList = true) : isPt (v, z) = true := by
  show ptK (.int v) (.str z) = true
  rw [ptK_is]
  have e : (Kn.int v).within 0 4294967296 = true := by
    simp [Kn.within]
    omega
  rw [e, decide_eq_false (by omega)]
  rcases h with h | h
  · rw [h]
    rfl
  · rw [h]
    simp
theorem strOk_behind {z : Str} (h : PyData.strOk z = true) : PyData.strOk (z ++ Str.ofString "!") = true := by
  unfold PyData.strOk at h ⊢
  rw [← Array.all_toList] at h ⊢
  rw [tl_app, List.all_append, h]
  decide +kernel
theorem ptFalse {K : Frag} {H : Hp} {x : V} {b : Bool} (e : b = false) (h : PtV K H x b) : PtV K H x false := e ▸ h
end Ah

/-! a method with a starred parameter: its rest is a new tuple -/
namespace Ah
open PySem PySem.Spec PyProof.Rows L2 He
def tupO (rs : List Value) : Obj := { cls := .type "tuple", data := .seq rs.toArray }
abbrev pushT (s : Shared) (rs : List Value) : Shared := { s with heap := s.heap.push (tupO rs) }
/-- the def at f, called by n own arguments and a rest -/
structure FnV (P : Program) (w : World) (K : Frag) (mg : Str → Option Value) (base : Heap) (k : Nat) (f : Addr) (n : Nat) (sp : Sp) : Prop where
  run : ∀ (A : Around) (outer : List Env) (s : Shared) (H : Hp) (us rs : List Value) (vs : List V) (Q : VK) (E : XK) (R : Result → Shared → Prop), Rm k A → Env0 P w K mg base A outer (pushT s rs) H → us.length = n → Vals vs us → K.In s.heap → rs.length ≤ sizeLine →
    sp (vs ++ [.ref s.heap.objs.size]) H Q E → (∀ r s', CR (L2.CX P w) outer P w H (pushT s rs) Q E r s' → R r s') → codeAny (model P w) A (.call (.ref f) ⟨us ++ rs, []⟩) R s
  kp : PySem.W.keepIn K (.ref f) = true
section
variable {P : Program} {w : World} {K : Frag} {mg : Str → Option Value} {base : Heap}
theorem okV {N ps : List Str} {x : Str} {k : Nat} {sp : Sp} {d : DefG} (S : Stands K d) (h0 : d.dfl = []) (sc : FnScope N (ps ++ [x]) d.scope) (len : ∀ vs H Q E, sp vs H Q E → vs.length = ps.length + 1)
    (hb : ∀ (kV doc pm : Value) (an : Option Addr) (cdv ct : Value) (us rs : List Value), us.length = ps.length → bindArgs (PySem.W.fnOf d.name d.qual d.params d.body d.scope .none kV doc pm an cdv ct) ⟨us ++ rs, []⟩ = (newTuple rs >>= fun t => pure ((ps ++ [x]).zip (us ++ [t]))))
    (hbody : BodyB (L2.CX P w) P w K mg base N d k sp) : FnV P w K mg base (k + 1) (d.ad K) ps.length sp := by
  obtain ⟨fd, F⟩ := S
  have e : d.dvs K = [] := by unfold DefG.dvs; rw [h0]; rfl
  rw [e] at F
  refine ⟨fun A outer s H us rs vs Q E R hr e0 hl r KX hz hsp hR => codeAny_mono ?_ fun res s' hq => hR res s' hq, F.kp⟩
  obtain ⟨oc, od, dV, kV, doc, pm, an, cdv, ct, osl, rfl, lk, hcd, hdf, _⟩ := F.ex
  have ed : dV = .none := by
    rcases hdf with ⟨_, z⟩ | ⟨z, _⟩
    · exact z
    · exact absurd rfl z
  subst ed
  have lim : (pushT s rs).heap.NoLimit := e0.mod.nolimit.keeps fun b o e => (e0.bs b o e).1
  have KX1 : K.In (pushT s rs).heap := e0.mod.kin.keeps fun b o e => (e0.bs b o e).1
  have hl2 : (vs ++ [V.ref s.heap.objs.size]).length = (ps ++ [x]).length := by rw [len _ _ _ _ hsp, List.length_append]; rfl
  have r2 : Vals (vs ++ [V.ref s.heap.objs.size]) (us ++ [.ref s.heap.objs.size]) := r.append (.cons rfl .nil)
  have par : ∀ y ∈ (ps ++ [x]).zip (us ++ [Value.ref s.heap.objs.size]), d.scope.names.lookup y.1 = some .local ∨ (d.scope.names.lookup y.1 = some .cell ∧ ((cellsFrom ((pushT s rs).heap.objs.size + 1) d.scope.names []).lookup y.1).isSome = true) := by
    rintro ⟨n, v⟩ hy
    cases sc.par n (List.of_mem_zip hy).1 with
    | inl q => exact Or.inl q
    | inr q => exact Or.inr ⟨q, PySem.W.cellsFrom_some _ _ _ (Or.inl q)⟩
  refine codeAny_call_function hr.r.depth (KX _ _ lk) rfl sc.co sc.gen rfl (PySem.W.codeRec_of KX hcd) ?_
  rw [hb kV doc pm an cdv ct us rs hl]
  refine wpAny_bind (wpAny_newTuple (wpAny_pure ?_) hz)
  refine wpAny_newFunctionEnv_cells sc.kind par fun env he s1 x1 => ?_
  subst he
  refine ⟨lim.keeps x1.toInCall.keep, codeAny_func ?_⟩
  have ec : CodeV K (d.ad K) = cdv := by
    unfold CodeV
    rw [lk]
  subst ec
  have hr' : Rm k (A.deeper (envOfC d.qual d.scope (pushT s rs).heap.objs.size (d.ad K) (CodeV K (d.ad K)))) := ⟨hr.r.deeper _, hr.g⟩
  obtain ⟨t, ht, hq⟩ := hbody A outer (pushT s rs) H _ Q E hr' hsp
  have I := inv_start (CX := L2.CX P w) (E := E) sc hr.r.hd e0 hl2 r2 x1
  refine wpAny_mono (ht.run [] s1 (L2.start N _) H _ I hq) (fun fl s' hs => ?_) fun _ _ hs => hs
  cases fl with
  | ret u =>
    obtain ⟨v, _, H', J, rv, q⟩ := hs
    exact ⟨v, H', J.os, J.bare, J.base, J.hok, rv, q⟩
  | next =>
    obtain ⟨_, H', J, q⟩ := hs
    exact ⟨V.non, H', J.os, J.bare, J.base, J.hok, rfl, q⟩
  | brk => exact hs.elim fun _ z => z.elim fun _ z => z.2.elim
  | cont => exact hs.elim fun _ z => z.elim fun _ z => z.2.elim
end
section
variable {X : Cx} {k j : Nat} {f C : Addr} {sp : Sp} {E : XK} {x m : Str} {e o : Expr} {es : List Expr} {t : TA} {ta : TE} {p pos apos : Pos}
/-- o.m(e, ..), m's def has self and a starred parameter -/
theorem pe_mtV {pl : Sem Bool} (he : PE X o ta) (c : Cls X.K C) (hm : Meth X.K C m f) (F : FnV X.prog X.w X.K X.mg X.base k f 1 sp) (hr : Rm j X.A) (hx : Passes (L2.CX X.prog X.w) X E) (ha : PA X (e :: es) t) (hk : k ≤ j := by decide)
    (hst : starEach (e :: es) X.env = (false, eval e X.env) :: starEach es X.env := by rfl) (hpl : (backTo pos (starEach es X.env)).any (·.1) = false := by rfl)
    (ht : eval (.Call (.Attribute o m apos) (e :: es) [] pos) X.env = (do
      let ov ← eval o X.env
      standAt apos.atName
      let (f, first) ← holding [ov] (getMethod ov m pl)
      callWith pos f first (backTo pos (starEach (e :: es) X.env)) (backToKw pos (keywordEach [] X.env))) := by rfl) :
    PE X (.Call (.Attribute o m apos) (e :: es) [] pos) (tMeth C m (fun vs H Q E => ∃ x ws, vs = x :: ws ∧ ws.length ≤ sizeLine ∧ ∀ p, H p = none → sp [x, .ref p] (upd H p (.tup ws)) Q E) [] E ta t) := by
  refine ⟨fun pins s σ H Q I h => PySem.W.methodCall_KW (pl := pl) (thn (he.run pins s σ H _ I h) fun u s1 ⟨x, H1, I1, rx, a, dx, fs, ex, ea, l, q⟩ => ?_) ht⟩
  subst ex
  cases (show u = Value.ref a from rx)
  refine getmeth_ok I1 ea c hm l (PySem.W.callWith_K (first := [.ref a]) (h₀ := X.base) I.ok.mod.kin hm.kp (thn (ha.run pos pins s1 σ H1 _ I1 q) fun us s2 ⟨vs, H2, I2, r, q2⟩ => ⟨I2.kIn, ?_⟩) hst hpl)
  simp only [List.append_nil] at q2
  obtain ⟨x, ws, e1, hz, q3⟩ := q2
  simp only [List.cons.injEq] at e1
  obtain ⟨rfl, rfl⟩ := e1
  have hf : H2 s2.heap.objs.size = none := I2.hok.fresh (Nat.le_refl _)
  have I3 : L2.Inv X pins σ (upd H2 s2.heap.objs.size (.tup vs)) (pushT s2 us) := by
    refine I2.laid (t' := s2.toks) (fun b u e => Heap.get?_push_of_some _ e) (Nat.le_refl _) ?_
    exact ⟨hz, us, r, ⟨_, Heap.get?_push_size _ rfl, rfl, _, rfl⟩⟩
  refine wpAny_call (F.run X.A X.stack s2 _ [.ref a] us [.ref a] Q E _ (hr.mono hk) I3.env0 rfl (.cons rfl .nil) I2.kIn (by rw [← r.length]; exact hz) (q3 _ hf) fun res s' hq => ?_)
  match res, hq with
  | .error e, hq => exact hx pins σ _ _ e s' I3 hq
  | .ok (.ret u), hq => exact I3.after hq
end
end Ah

/-! the state of a law's turn: what was there is kept, the pool is a pool, the tables are tables -/
namespace Ah
open PySem PySem.Spec PyProof.Rows L2 He LamX
/-- cut a suite behind its first statement: N is what comes next -/
theorem seq_gen {A B : TS} {D : Ends} {σ : L2.St} {H : Hp} (P : L2.St → Hp → Prop) (h : ∀ N : L2.St → Hp → Prop, (∀ σ' H', P σ' H' → N σ' H') → A { D with nx := N } σ H) (hB : ∀ σ' H', P σ' H' → B D σ' H') : tSeq A B D σ H := h (B D) hB
theorem one_gen {A : TS} {D : Ends} {σ : L2.St} {H : Hp} (P : L2.St → Hp → Prop) (h : ∀ N : L2.St → Hp → Prop, (∀ σ' H', P σ' H' → N σ' H') → A { D with nx := N } σ H) (hB : ∀ σ' H', P σ' H' → D.nx σ' H') : A D σ H := h D.nx hB
/-- all but the pool and the tables stay -/
def Nx (pl : Addr) (H H' : Hp) : Prop := ∀ b o, b ≠ pl → H b = some o → (∀ ps, o ≠ .tbl ps) → H' b = some o
theorem Nx.refl {pl : Addr} {H : Hp} : Nx pl H H := fun _ _ _ h _ => h
theorem Nx.trans {pl : Addr} {H H1 H2 : Hp} (a : Nx pl H H1) (b : Nx pl H1 H2) : Nx pl H H2 := fun c o n h t => b c o n (a c o n h t) t
theorem Nx.same {pl : Addr} {H H' : Hp} (s : Same H H') : Nx pl H H' := fun b o _ h _ => s b o h
theorem Nx.ex {pl : Addr} {H H' : Hp} (s : Ex pl H H') : Nx pl H H' := fun b o n h _ => s b o n h
theorem Nx.ext {pl : Addr} {H H' : Hp} (s : ExtN H H') : Nx pl H H' := fun b o _ h t => s b o h t
theorem Nx.new {pl p : Addr} {H H' : Hp} {o : HO} (s : Nx pl H H') (h : H' p = none) : Nx pl H (upd H' p o) := s.trans (.same (Same.upd (Same.refl _) h))
structure Bs (T : List (Addr × Str)) (H0 : Hp) (pl : Addr) (H : Hp) : Prop where
  ext : ExtN H0 H
  pool : PoolAt H pl
  tabs : Tabs T H
  new : H0 pl = none ∨ ∃ ps, H0 pl = some (.tbl ps)
section
variable {T : List (Addr × Str)} {H0 H H' : Hp} {pl r : Addr}
theorem Bs.same (b : Bs T H0 pl H) (s : Same H H') : Bs T H0 pl H' := ⟨b.ext.trans (.of s), b.pool.same s, b.tabs.ext s, b.new⟩
theorem Bs.upd {p : Addr} {o : HO} (b : Bs T H0 pl H) (h : H p = none) : Bs T H0 pl (upd H p o) := b.same (Same.upd (Same.refl _) h)
theorem Bs.lam (b : Bs T H0 pl H) (e : ExtN H H') (t : Tabs T H') : Bs T H0 pl H' := by
  refine ⟨b.ext.trans e, ?_, t, b.new⟩
  obtain ⟨p, q, h⟩ := b.pool
  exact ⟨p, q, e _ _ h (fun ps z => by cases z)⟩
theorem Bs.ex (b : Bs T H0 pl H) (x : Ex pl H H') (hp : PoolAt H' pl) : Bs T H0 pl H' := by
  obtain ⟨p, q, h⟩ := b.pool
  refine ⟨fun c o hc ht => x c o (fun z => ?_) (b.ext c o hc ht), hp, fun t ht => ?_, b.new⟩
  · rw [z] at hc
    rcases b.new with n | ⟨ps, n⟩
    · rw [n] at hc
      cases hc
    · rw [n] at hc
      cases hc
      exact ht ps rfl
  · obtain ⟨ps, h1, h2, h3⟩ := b.tabs t ht
    refine ⟨ps, x _ _ (fun z => ?_) h1, h2, fun pos cv hc => ?_⟩
    · rw [z, h] at h1
      cases h1
    · obtain ⟨c, e1, e2⟩ := h3 pos cv hc
      refine ⟨c, e1, x _ _ (fun z => ?_) e2⟩
      rw [z, h] at e2
      unfold CodeO at e2
      cases e2
/-- a new address is not the pool's -/
theorem Bs.ne (b : Bs T H0 pl H) (h : H r = none) : r ≠ pl := b.pool.ne h
theorem PtAt.nx {p : Pt} (h : PtAt H r p) (b : PoolAt H pl) (x : Nx pl H H') : PtAt H' r p := by
  obtain ⟨i, j, e⟩ := b
  exact x _ _ (ne_of h e (fun z => by cases z)) h (fun ps z => by cases z)
theorem ArcAt.nx {K : Frag} {p q : Pt} (h : ArcAt K H r p q) (b : PoolAt H pl) (x : Nx pl H H') : ArcAt K H' r p q := by
  obtain ⟨dx, a, c, h1, h2, h3⟩ := h
  have bb := b
  obtain ⟨i, j, e⟩ := b
  exact ⟨dx, a, c, x _ _ (ne_of h1 e (fun z => by cases z)) h1 (fun ps z => by cases z), h2.nx bb x, h3.nx bb x⟩
end
theorem freeN {H H' : Hp} {p : Addr} (e : ExtN H H') (h : H' p = none) : H p = none ∨ ∃ ps, H p = some (.tbl ps) := by
  cases q : H p with
  | none => exact .inl rfl
  | some o =>
    by_cases ht : ∃ ps, o = .tbl ps
    · obtain ⟨ps, rfl⟩ := ht
      exact .inr ⟨ps, rfl⟩
    · have z := e p o q fun ps hz => ht ⟨ps, hz⟩
      rw [h] at z
      cases z
theorem seqN {K : Frag} {H H' : Hp} {a : Addr} {xs : List V} (h : SqL K H a xs) (e : ExtN H H') : SqL K H' a xs := by
  rcases h with (h | ⟨o, h⟩) | h
  · exact .inl (.inl (e _ _ h fun ps z => by cases z))
  · exact .inl (.inr ⟨o, e _ _ h fun ps z => by cases z⟩)
  · exact .inr h
theorem same_made {H : Hp} {x dx C : Addr} {o : HO} {fs : List (Str × V)} (nx : H x = none) (ndx : H dx = none) (ne : dx ≠ x) : Same H (upd (upd H dx o) x (.ins C dx fs)) := Same.upd (Same.upd (Same.refl _) ndx) (by rw [upd_ne ne.symm]; exact nx)
theorem sameOf {H H' : Hp} {p : Addr} {o : HO} (n : H p = none) (h : upd H p o = H') : Same H H' := by
  subst h
  exact Same.upd (Same.refl _) n
theorem atOf {H H' : Hp} {p : Addr} {o : HO} (h : upd H p o = H') : H' p = some o := by
  subst h
  exact upd_same
theorem PoolAt.ne' {H : Hp} {a b : Addr} {o : HO} (h : PoolAt H a) (hb : H b = none) : b ≠ a := h.ne hb
/-- an object that stays -/
theorem Nx.at {pl p : Addr} {H H' : Hp} {o : HO} (x : Nx pl H H') (h : H p = some o) (n : p ≠ pl) (t : ∀ ps, o ≠ .tbl ps := by intro ps z; cases z) : H' p = some o := x p o n h t
theorem madeOf {H H' : Hp} {x dx : Addr} {o o' : HO} (nx : H x = none) (ndx : H dx = none) (ne : dx ≠ x) (h : upd (upd H dx o) x o' = H') : Same H H' := by
  subst h
  exact Same.upd (Same.upd (Same.refl _) ndx) (by rw [upd_ne ne.symm]; exact nx)
end Ah

/-! repr(v) is z -/
namespace Ah
open PySem PySem.Spec PySem.W PySem.Calls PyProof.Rows L2 He
inductive Rp (K : Frag) (H : Hp) : V → Str → Prop
  | data {v : V} (d : PyData) (h : Dp K H v d) (h1 : d.showable = true) (h2 : d.hasDict = false) (h3 : d.depth ≤ 64) (h4 : d.shown.length ≤ sizeLine) : Rp K H v d.shown
  | edict {a : Addr} (h : H a = some (.dK [])) : Rp K H (.ref a) "{}"
def rReprV (K : Frag) : List V → Hp → VK → Prop := fun xs H Q => ∃ (x : V) (z : Str), xs = [x] ∧ Rp K H x z ∧ Q (.str z) H
theorem call_reprV {X : Cx} (hg : X.A.guards = some []) (hu : X.A.units + 99 < cLine) : CallR X (.builtin "repr") (rReprV X.K) := by
  intro pins s σ H xs us Q I r h
  obtain ⟨x, z, rfl, hx, q⟩ := h
  cases hx with
  | data d h h1 h2 h3 h4 => exact call_reprD hg hu pins s σ H _ us Q I r ⟨x, d, rfl, h, h1, h2, h3, h4, q⟩
  | @edict a h =>
    obtain ⟨u, rfl, ru⟩ := r.one
    cases (show u = Value.ref a from ru)
    obtain ⟨_, hsys, vs, kv, o, es, ep, ho, hx, hd, _, hp, _⟩ := I.hok a _ h
    have ev : vs = [] := by cases kv; rfl
    subst ev
    have ee : es = #[] := by
      have z : es.toList = [] := List.eq_nil_of_length_eq_zero hp.length
      exact Array.toList_eq_nil_iff.mp z
    subst ee
    have rd : Reads s.heap (.ref a) (.dict []) ([a] ++ []) := Reads.dict ho hx.1 hd .nil .nil
    have hs : (PyData.dict []).shown = ("{}" : Str) := by decide +kernel
    refine repr_of_reads' rd rfl (fun _ hm => ?_) hg (by show X.A.units + (1 + 1) < cLine; omega) (fun _ _ z => z) (fun h' t tk hk => ?_) (by rw [hs]; decide +kernel)
    · have : sysModules = a := by simpa using hm
      rw [this] at hsys
      simp at hsys
    · rw [hs]
      exact ⟨.str "{}", H, I.kept (t' := tk) hk, ⟨t, rfl⟩, q⟩
theorem call_reprVX {X : Cx} {a : Addr} {cls : Value} {d : Option Addr} {oe : Obj} {pn : List (Addr × Obj)} (hz : Zc cls d oe) (hg : (X.suite a ((a, oe) :: pn)).A.guards = some []) (hu : (X.suite a ((a, oe) :: pn)).A.units + 99 < cLine) : CallR (X.suite a ((a, oe) :: pn)) (.builtin "repr") (rReprV X.K) :=
  call_reprV hg hu
end Ah

/-! operators of own instances -/
namespace Ah
open PySem PySem.Spec PySem.W PySem.Calls PyProof.Rows L2 He
def Kn.least : Kn → Int → Bool
  | .int i, m => decide (m ≤ i)
  | _, _ => false
def Kn.isInt : Kn → Bool
  | .int _ => true
  | _ => false
theorem isInt_eq (k : Kn) : (k.isT "int" && !k.isT "bool") = k.isInt := by cases k <;> rfl
section
variable {X : Cx} {k j : Nat} {f C : Addr} {sp : Sp} {E : XK}
/-- len(x), x an instance of C with its own __len__ -/
def rLenO (C : Addr) (sp : Sp) (E : XK) : List V → Hp → VK → Prop := fun xs H Q => ∃ a dx fs, xs = [.ref a] ∧ H a = some (.ins C dx fs) ∧ sp [.ref a] H (fun z H' => ∃ n : Nat, z = .int n ∧ n < 2 ^ 62 ∧ Q (.int n) H') E
theorem call_lenO (hm : Meth X.K C "__len__" f) (G : FnB X.prog X.w X.K X.mg X.base k f sp) (hr : Rm j X.A) (hx : Passes (L2.CX X.prog X.w) X E) (hk : k + 1 ≤ j := by decide) : CallR X (.builtin "len") (rLenO C sp E) := by
  intro pins s σ H xs us Q I r h
  obtain ⟨a, dx, fs, rfl, ha, q⟩ := h
  obtain ⟨u, rfl, ru⟩ := r.one
  cases (show u = Value.ref a from ru)
  obtain ⟨mA, O, _⟩ := ins_get I.hok ha
  obtain ⟨od, J, _⟩ := O.look
  obtain ⟨m, Fr⟩ := I.fr
  have hr1 : Rm (k + 1) X.A := hr.mono hk
  refine len_K Fr I.mod.kin J hm.at_ hm.fn (wpAny_mono (wpAny_call (runB (us := [.ref a]) (vs := [.ref a]) G hr1.in1 I.env0.in1 hx I (.cons rfl .nil) q)) (fun w s' z => ?_) fun _ _ x => x)
  obtain ⟨z', H', I', rz, n, en, hn, qz⟩ := z
  subst en
  obtain ⟨t, e⟩ := (show ∃ t, w = Value.int n t from rz)
  subst e
  exact ⟨⟨by omega, by omega⟩, .int n, H', I'.tok _, ⟨_, rfl⟩, qz⟩
end
end Ah

/-! change logs: rows, and how they lie -/
namespace Ah
open PySem PySem.Spec PyProof.Rows L2 He
abbrev LRow : Type := Int × Str × Option Int × Option Int
def oV : Option Int → V
  | none => .non
  | some i => .int i
def oD : Option Int → PyData
  | none => .none
  | some i => .int i
theorem dpO {K : Frag} {H : Hp} (o : Option Int) : Dp K H (oV o) (oD o) := by
  cases o
  · exact .non
  · exact .int _
def rowV (r : LRow) : List V := [.int r.1, .str r.2.1, oV r.2.2.1, oV r.2.2.2]
def rowD (r : LRow) : PyData := .tuple [.int r.1, .str r.2.1, oD r.2.2.1, oD r.2.2.2]
/-- the rows lie at these addresses -/
inductive RowsAt (H : Hp) : List Addr → List LRow → Prop
  | nil : RowsAt H [] []
  | cons {a : Addr} {r : LRow} {as : List Addr} {rs : List LRow} (h : H a = some (.tup (rowV r))) (t : RowsAt H as rs) : RowsAt H (a :: as) (r :: rs)
/-- tuples stay -/
def Tk (H H' : Hp) : Prop := ∀ b xs, H b = some (.tup xs) → H' b = some (.tup xs)
theorem Tk.refl {H : Hp} : Tk H H := fun _ _ h => h
theorem Tk.trans {H H1 H2 : Hp} (a : Tk H H1) (b : Tk H1 H2) : Tk H H2 := fun c xs h => b c xs (a c xs h)
theorem Tk.same {H H' : Hp} (s : Same H H') : Tk H H' := fun b xs h => s b _ h
theorem Tk.ext {H H' : Hp} (s : LamX.ExtN H H') : Tk H H' := fun b xs h => s b _ h (fun ps z => by cases z)
theorem Tk.upd {H : Hp} {p : Addr} {o o' : HO} (h : H p = some o) (n : ∀ xs, o ≠ .tup xs) : Tk H (upd H p o') := fun b xs hb => by
  by_cases e : b = p
  · subst e
    rw [h] at hb
    exact absurd (Option.some.inj hb) (n xs)
  · rw [upd_ne e]
    exact hb
section
variable {H H' : Hp} {as bs : List Addr} {rs ss : List LRow}
theorem RowsAt.tk (h : RowsAt H as rs) (t : Tk H H') : RowsAt H' as rs := by
  induction h with
  | nil => exact .nil
  | cons h _ ih => exact .cons (t _ _ h) ih
theorem RowsAt.len (h : RowsAt H as rs) : as.length = rs.length := by
  induction h with
  | nil => rfl
  | cons _ _ ih => simp [ih]
theorem RowsAt.app (h : RowsAt H as rs) (g : RowsAt H bs ss) : RowsAt H (as ++ bs) (rs ++ ss) := by
  induction h with
  | nil => exact g
  | cons h _ ih => exact .cons h ih
theorem RowsAt.drop (h : RowsAt H as rs) (n : Nat) : RowsAt H (as.drop n) (rs.drop n) := by
  induction h generalizing n with
  | nil => simpa using RowsAt.nil
  | cons h t ih =>
    cases n with
    | zero => exact .cons h t
    | succ n => exact ih n
theorem RowsAt.at (h : RowsAt H as rs) {i : Nat} {a : Addr} (e : as[i]? = some a) : ∃ r, rs[i]? = some r ∧ H a = some (.tup (rowV r)) := by
  induction h generalizing i with
  | nil => simp at e
  | cons h t ih =>
    cases i with
    | zero =>
      simp at e
      subst e
      exact ⟨_, rfl, h⟩
    | succ i => exact ih (by simpa using e)
theorem RowsAt.at' (h : RowsAt H as rs) {i : Nat} {r : LRow} (e : rs[i]? = some r) : ∃ a, as[i]? = some a ∧ H a = some (.tup (rowV r)) := by
  induction h generalizing i with
  | nil => simp at e
  | cons h t ih =>
    cases i with
    | zero =>
      simp at e
      subst e
      exact ⟨_, rfl, h⟩
    | succ i => exact ih (by simpa using e)
theorem RowsAt.dps {K : Frag} (h : RowsAt H as rs) : DpAll K H (as.map V.ref) (rs.map rowD) := by
  induction h with
  | nil => exact .nil
  | cons h _ ih => exact .cons (.tup (SqT.of h) (.cons (.int _) (.cons (.str _) (.cons (dpO _) (.cons (dpO _) .nil))))) ih
end
/-- the texts of the rows can be laid -/
def RowsOk (rs : List LRow) : Prop := ∀ r ∈ rs, PyData.strOk r.2.1 = true
theorem canLay_row {r : LRow} (h : PyData.strOk r.2.1 = true) : PyData.canLay0 (rowD r) = true := by
  obtain ⟨m, k, o, n⟩ := r
  show (true && (PyData.strOk k && ((PyData.canLay0 (oD o)) && ((PyData.canLay0 (oD n)) && true)))) = true
  rw [show PyData.strOk k = true from h]
  cases o <;> cases n <;> rfl
theorem depth_row (r : LRow) : (rowD r).depth = 1 := by
  obtain ⟨m, k, o, n⟩ := r
  cases o <;> cases n <;> rfl
theorem canLay_rows : ∀ {rs : List LRow}, RowsOk rs → PyData.canLayAll0 (rs.map rowD) = true
  | [], _ => rfl
  | r :: rs, h => Bool.and_eq_true_iff.mpr ⟨canLay_row (h r (List.mem_cons_self)), canLay_rows fun q hq => h q (List.mem_cons_of_mem _ hq)⟩
theorem depth_rows : ∀ rs : List LRow, PyData.depthAll (rs.map rowD) ≤ 1
  | [] => by decide
  | r :: rs => by
    show max (rowD r).depth (PyData.depthAll (rs.map rowD)) ≤ 1
    rw [depth_row]
    have := depth_rows rs
    omega
theorem shaped_rows {rs : List LRow} (h : RowsOk rs) : SeqAt.shaped (.list (rs.map rowD)) = true := by
  refine Bool.and_eq_true_iff.mpr ⟨canLay_rows h, decide_eq_true ?_⟩
  show PyData.depthAll (rs.map rowD) + 1 ≤ 64
  have := depth_rows rs
  omega
theorem eqv_o (a b : Option Int) : PyData.eqv (oD a) (oD b) = decide (a = b) := by
  cases a <;> cases b
  · simp [oD, PyData.eqv]
  · simp [oD, PyData.eqv]
  · simp [oD, PyData.eqv]
  · simp only [oD, PyData.eqv]
    rw [Bool.eq_iff_iff]
    simp
theorem eqv_row (r s : LRow) : PyData.eqv (rowD r) (rowD s) = decide (r = s) := by
  obtain ⟨m, k, o, n⟩ := r
  obtain ⟨m', k', o', n'⟩ := s
  simp only [rowD, PyData.eqv, PyData.eqvAll, eqv_o]
  rw [Bool.eq_iff_iff]
  simp
theorem eqv_rows : ∀ rs ss : List LRow, PyData.eqvAll (rs.map rowD) (ss.map rowD) = decide (rs = ss)
  | [], [] => rfl
  | [], _ :: _ => rfl
  | _ :: _, [] => rfl
  | r :: rs, s :: ss => by
    show (PyData.eqv (rowD r) (rowD s) && PyData.eqvAll (rs.map rowD) (ss.map rowD)) = _
    rw [eqv_row, eqv_rows rs ss, Bool.eq_iff_iff]
    simp
/-- all but two addresses stay -/
def Ex2 (x y : Addr) (H H' : Hp) : Prop := ∀ b o, b ≠ x → b ≠ y → H b = some o → H' b = some o
theorem Ex2.refl {x y : Addr} {H : Hp} : Ex2 x y H H := fun _ _ _ _ h => h
theorem Ex2.trans {x y : Addr} {H H1 H2 : Hp} (a : Ex2 x y H H1) (b : Ex2 x y H1 H2) : Ex2 x y H H2 := fun c o n m h => b c o n m (a c o n m h)
theorem Ex2.same {x y : Addr} {H H' : Hp} (s : Same H H') : Ex2 x y H H' := fun b o _ _ h => s b o h
theorem Ex2.upd1 {x y : Addr} {H H' : Hp} {o : HO} (s : Ex2 x y H H') : Ex2 x y H (upd H' x o) := fun b p n m h => by
  rw [upd_ne n]
  exact s b p n m h
theorem Ex2.upd2 {x y : Addr} {H H' : Hp} {o : HO} (s : Ex2 x y H H') : Ex2 x y H (upd H' y o) := fun b p n m h => by
  rw [upd_ne m]
  exact s b p n m h
/-- a ChangeLog lies at x, its list at L -/
structure LogAt (K : Frag) (H : Hp) (x L : Addr) (b f : Int) (as : List Addr) (rs : List LRow) : Prop where
  ins : ∃ dx, H x = some (.ins (ga K "ChangeLog") dx [("own_bound", .int b), ("own_floor", .int f), ("own_changes", .ref L)])
  lst : H L = some (.lst (as.map V.ref))
  rows : RowsAt H as rs
  ok : RowsOk rs
  few : rs.length ≤ 100000
section
variable {K : Frag} {H H' : Hp} {x L : Addr} {b f : Int} {as : List Addr} {rs : List LRow}
theorem LogAt.same (h : LogAt K H x L b f as rs) (s : Same H H') : LogAt K H' x L b f as rs := by
  obtain ⟨⟨dx, h1⟩, h2, h3, h4, h5⟩ := h
  exact ⟨⟨dx, s _ _ h1⟩, s _ _ h2, h3.tk (.same s), h4, h5⟩
theorem LogAt.ne (h : LogAt K H x L b f as rs) : x ≠ L := by
  obtain ⟨⟨dx, h1⟩, h2, _, _, _⟩ := h
  exact ne_of h1 h2 (fun z => by cases z)
/-- the moment of the last row, or the floor -/
def lastOf (f : Int) (rs : List LRow) : Int := match rs.getLast? with
  | some r => r.1
  | none => f
end
theorem isList {K : Frag} {H : Hp} {L : Addr} {xs : List V} (h : H L = some (.lst xs)) : tyV K "list" (.ref L) H := .inl ⟨rfl, xs, SqL.of h⟩
end Ah

/-! states: a pool, tables, odd values -/
namespace Ah
open PySem PySem.Spec PyProof.Rows L2 He LamX
section
variable {T : List (Addr × Str)} {K : Frag} {H0 H H' : Hp} {pl r : Addr}
/-- tables stay where their objects stay -/
theorem tabs_keep (t : Tabs T H) (h : ∀ b o, H b = some o → ((∃ ps, o = .tbl ps) ∨ ∃ q, o = CodeO b q) → H' b = some o) : Tabs T H' := by
  intro p hp
  obtain ⟨ps, h1, h2, h3⟩ := t p hp
  refine ⟨ps, h _ _ h1 (.inl ⟨ps, rfl⟩), h2, fun pos cv hc => ?_⟩
  obtain ⟨c, e1, e2⟩ := h3 pos cv hc
  exact ⟨c, e1, h _ _ e2 (.inr ⟨_, rfl⟩)⟩
theorem tabs_ex {a : Addr} {o : HO} (t : Tabs T H) (x : Ex a H H') (ha : H a = some o) (n1 : ∀ ps, o ≠ .tbl ps) (n2 : ∀ q, o ≠ CodeO a q) : Tabs T H' :=
  tabs_keep t fun b o' hb hk => x b o' (fun z => by
    subst z
    rw [ha] at hb
    cases hb
    rcases hk with ⟨ps, e⟩ | ⟨q, e⟩
    · exact n1 ps e
    · exact n2 q e) hb
theorem tabs_ex2 {a c : Addr} {o o2 : HO} (t : Tabs T H) (x : Ex2 a c H H') (ha : H a = some o) (n1 : ∀ ps, o ≠ .tbl ps) (n2 : ∀ q, o ≠ CodeO a q) (hc : H c = some o2) (m1 : ∀ ps, o2 ≠ .tbl ps) (m2 : ∀ q, o2 ≠ CodeO c q) : Tabs T H' :=
  tabs_keep t fun b o' hb hk => x b o' (fun z => by
    subst z
    rw [ha] at hb
    cases hb
    rcases hk with ⟨ps, e⟩ | ⟨q, e⟩
    · exact n1 ps e
    · exact n2 q e) (fun z => by
    subst z
    rw [hc] at hb
    cases hb
    rcases hk with ⟨ps, e⟩ | ⟨q, e⟩
    · exact m1 ps e
    · exact m2 q e) hb
/-- what a def that draws and makes lambdas keeps -/
structure Sb (T : List (Addr × Str)) (pl : Addr) (H0 H : Hp) : Prop where
  nx : Nx pl H0 H
  pool : PoolAt H pl
  tabs : Tabs T H
theorem Sb.same (b : Sb T pl H0 H) (s : Same H H') : Sb T pl H0 H' := ⟨b.nx.trans (.same s), b.pool.same s, b.tabs.ext s⟩
theorem Sb.ex (b : Sb T pl H0 H) (x : Ex pl H H') (hp : PoolAt H' pl) : Sb T pl H0 H' := by
  obtain ⟨p, q, h⟩ := b.pool
  exact ⟨b.nx.trans (.ex x), hp, tabs_ex b.tabs x h (fun ps z => by cases z) (fun q z => by unfold CodeO at z; cases z)⟩
theorem Sb.lam (b : Sb T pl H0 H) (e : ExtN H H') (t : Tabs T H') : Sb T pl H0 H' := by
  obtain ⟨p, q, h⟩ := b.pool
  exact ⟨b.nx.trans (.ext e), ⟨p, q, e _ _ h (fun ps z => by cases z)⟩, t⟩
theorem Sb.ne (b : Sb T pl H0 H) (h : H r = none) : r ≠ pl := b.pool.ne h
theorem LogAt.nx {x L : Addr} {b f : Int} {as : List Addr} {rs : List LRow} (h : LogAt K H x L b f as rs) (p : PoolAt H pl) (n : L ≠ pl) (y : Nx pl H H') : LogAt K H' x L b f as rs := by
  obtain ⟨i, j, e⟩ := p
  obtain ⟨⟨dx, h1⟩, h2, h3, h4, h5⟩ := h
  refine ⟨⟨dx, y _ _ (ne_of h1 e (fun z => by cases z)) h1 (fun ps z => by cases z)⟩, y _ _ n h2 (fun ps z => by cases z), ?_, h4, h5⟩
  exact h3.tk fun c xs hc => y _ _ (ne_of hc e (fun z => by cases z)) hc (fun ps z => by cases z)
theorem LogAt.ext {x L : Addr} {b f : Int} {as : List Addr} {rs : List LRow} (h : LogAt K H x L b f as rs) (y : ExtN H H') : LogAt K H' x L b f as rs := by
  obtain ⟨⟨dx, h1⟩, h2, h3, h4, h5⟩ := h
  exact ⟨⟨dx, y _ _ h1 (fun ps z => by cases z)⟩, y _ _ h2 (fun ps z => by cases z), h3.tk (.ext y), h4, h5⟩
/-- an odd value: what it is, how it is shown -/
structure OdV (K : Frag) (pl : Addr) (H : Hp) (v : V) (k : Kn) (z : Str) : Prop where
  box : ∀ H', Nx pl H H' → Is K H' v k ∧ Rp K H' v z
  ok : PyData.strOk z = true
theorem OdV.nx {v : V} {k : Kn} {z : Str} (h : OdV K pl H v k z) (x : Nx pl H H') : OdV K pl H' v k z := ⟨fun H2 y => h.box H2 (x.trans y), h.ok⟩
/-- can be shown, in few signs -/
def PyData.plain (d : PyData) : Bool := d.showable && !d.hasDict && decide (d.depth ≤ 64) && decide (d.shown.length ≤ 1000) && PyData.strOk d.shown
theorem plain_rp {v : V} {d : PyData} (h : PyData.plain d = true) (hd : Dp K H v d) : Rp K H v d.shown := by
  unfold PyData.plain at h
  simp only [Bool.and_eq_true, decide_eq_true_eq, Bool.not_eq_true'] at h
  obtain ⟨⟨⟨⟨h1, h2⟩, h3⟩, h4⟩, h5⟩ := h
  exact .data d hd h1 h2 h3 (by rw [sizeLine_eq]; omega)
theorem plain_ok {d : PyData} (h : PyData.plain d = true) : PyData.strOk d.shown = true := by
  unfold PyData.plain at h
  simp only [Bool.and_eq_true, decide_eq_true_eq, Bool.not_eq_true'] at h
  exact h.2
theorem OdV.of {v : V} {k : Kn} (d : PyData) (h : PyData.plain d = true) (b : ∀ H', Nx pl H H' → Is K H' v k ∧ Dp K H' v d) : OdV K pl H v k d.shown := ⟨fun H' y => ⟨(b H' y).1, plain_rp h (b H' y).2⟩, plain_ok h⟩
theorem plain_small : ∀ n : Nat, n < 200 → PyData.plain (.int ((n : Int) - 10)) = true := by decide +kernel
theorem plain_int {i : Int} (h0 : -10 ≤ i) (h1 : i ≤ 180) : PyData.plain (.int i) = true := by
  have h := plain_small (i + 10).toNat (by omega)
  rwa [show (((i + 10).toNat : Nat) : Int) - 10 = i by omega] at h
theorem shapedTxt {z y : Str} (hz : PyData.strOk z = true) (hy : PyData.strOk y = true) : SeqAt.shaped (.list [.str z, .bool true, .str y]) = true := by
  refine Bool.and_eq_true_iff.mpr ⟨?_, decide_eq_true (show max 0 (max 0 (max 0 0)) + 1 ≤ 64 by decide)⟩
  show (PyData.strOk z && (true && (PyData.strOk y && true))) = true
  rw [hz, hy]
  rfl
theorem shapedInt {z : Str} {n : Int} (hz : PyData.strOk z = true) : SeqAt.shaped (.list [.str z, .bool true, .int n]) = true := by
  refine Bool.and_eq_true_iff.mpr ⟨?_, decide_eq_true (show max 0 (max 0 (max 0 0)) + 1 ≤ 64 by decide)⟩
  show (PyData.strOk z && (true && (true && true))) = true
  rw [hz]
  rfl
/-- the answer is the one that is due: != tells False -/
theorem neTxt {a b : Addr} {x z : Str} {Q : VK} (hx : PyData.strOk x = true) (hz : PyData.strOk z = true) (h1 : H a = some (.lst [.str x, .bl true, .str z])) (h2 : H b = some (.lst [.str x, .bl true, .str z])) (q : Q (.bl false) H) : rNeD K (.ref a) (.ref b) H Q :=
  neD_same (.list [.str x, .bool true, .str z]) (.lst (SqL.of h1) (.cons (.str _) (.cons (.bl _) (.cons (.str _) .nil)))) (.lst (SqL.of h2) (.cons (.str _) (.cons (.bl _) (.cons (.str _) .nil)))) (shapedTxt hx hz) q
theorem neInt {a b : Addr} {x : Str} {n : Int} {Q : VK} (hx : PyData.strOk x = true) (h1 : H a = some (.lst [.str x, .bl true, .int n])) (h2 : H b = some (.lst [.str x, .bl true, .int n])) (q : Q (.bl false) H) : rNeD K (.ref a) (.ref b) H Q :=
  neD_same (.list [.str x, .bool true, .int n]) (.lst (SqL.of h1) (.cons (.str _) (.cons (.bl _) (.cons (.int _) .nil)))) (.lst (SqL.of h2) (.cons (.str _) (.cons (.bl _) (.cons (.int _) .nil)))) (shapedInt hx) q
theorem eqTxt {a b : Addr} {x z : Str} {Q : VK} (hx : PyData.strOk x = true) (hz : PyData.strOk z = true) (h1 : H a = some (.lst [.str x, .bl true, .str z])) (h2 : H b = some (.lst [.str x, .bl true, .str z])) (q : Q (.bl true) H) : rEqD K (.ref a) (.ref b) H Q :=
  eqD_same (.list [.str x, .bool true, .str z]) (.lst (SqL.of h1) (.cons (.str _) (.cons (.bl _) (.cons (.str _) .nil)))) (.lst (SqL.of h2) (.cons (.str _) (.cons (.bl _) (.cons (.str _) .nil)))) (shapedTxt hx hz) q
end
end Ah

/-! own __getitem__, __setitem__, __contains__; dict(d) -/
namespace Ah
open PySem PySem.Spec PySem.W PySem.Calls PyProof.Rows L2 He
section
variable {X : Cx} {k j : Nat} {f C : Addr} {sp : Sp} {E : XK} {a b : Expr} {ta tb : TE} {pos : Pos}
/-- x[y], x an instance of C with its own __getitem__ -/
def rGetO (C : Addr) (sp : Sp) (E : XK) : R2 := fun x y H Q => ∃ a dx fs, x = .ref a ∧ H a = some (.ins C dx fs) ∧ sp [x, y] H Q E
theorem pe_ixO (hm : Meth X.K C "__getitem__" f) (hi : PySem.W.fnIn X.K f = true) (G : FnB X.prog X.w X.K X.mg X.base k f sp) (hr : Rm j X.A) (hx : Passes (L2.CX X.prog X.w) X E) (ha : PE X a ta) (hb : PE X b tb) (hk : k + 1 ≤ j := by decide)
    (hsl : ∀ v u, subscripted b true v u = runValue (.builtin "lifetime.subscript" ⟨[v, u], []⟩) := by intro _ _; rfl) : PE X (.Subscript a b pos) (tOp (rGetO C sp E) ta tb) := by
  refine ⟨fun pins s σ H Q I h => ?_⟩
  refine Subscript_ (binT ha hb I h fun v u s2 x y H2 I2 rx ry q => ?_)
  obtain ⟨p, dx, fs, rfl, hp, q⟩ := q
  cases (show v = Value.ref p from rx)
  obtain ⟨mA, O, _⟩ := ins_get I2.hok hp
  obtain ⟨od, J, _⟩ := O.look
  obtain ⟨m, Fr⟩ := I2.fr
  have hr1 : Rm (k + 1) X.A := hr.mono hk
  exact PySem.W.sub_K Fr I2.ok.mod.kin J hm.at_ hi hm.fn (wpAny_call (runB (us := [.ref p, u]) (vs := [.ref p, y]) G hr1.in1 I2.env0.in1 hx I2 (.cons rfl (.cons ry .nil)) q)) (hsl _ _)
/-- x[y] = v, x an instance of C with its own __setitem__ -/
def rSetO (C : Addr) (sp : Sp) (E : XK) : TSet := fun o i v H Q => ∃ a dx fs, o = .ref a ∧ H a = some (.ins C dx fs) ∧ sp [o, i, v] H (fun _ H' => Q H') E
theorem set_own (hm : Meth X.K C "__setitem__" f) (hq : PySem.W.noSeq X.K C = true) (G : FnB X.prog X.w X.K X.mg X.base k f sp) (hr : Rm j X.A) (hx : Passes (L2.CX X.prog X.w) X E) (hk : k ≤ j := by decide) : PSet X (rSetO C sp E) := by
  intro pins s σ H o i v ov iv u Q I ro ri rv h
  obtain ⟨p, dx, fs, rfl, hp, q⟩ := h
  cases (show ov = Value.ref p from ro)
  obtain ⟨mA, O, _⟩ := ins_get I.hok hp
  obtain ⟨od, J, _⟩ := O.look
  unfold setItem sequenceKey
  refine wpAny_holding (wpAny_bind (wpAny_bind (J.type.here ?_)))
  refine wpAny_bind ((PySem.W.anyM_none I.kIn hq).here ?_)
  rw [if_pos (show (!false) = true from rfl)]
  refine wpAny_pure (wpAny_bind (PySem.W.special_fn I.kIn J hm.at_ (beq_iff_eq.mp hm.fn) (wpAny_mono (wpAny_call (runB (us := [.ref p, iv, u]) (vs := [.ref p, i, v]) G (hr.mono hk) I.env0 hx I (.cons rfl (.cons ri (.cons rv .nil))) q)) (fun w s' z => ?_) fun _ _ z => z)))
  obtain ⟨z', H', I', rz, qz⟩ := z
  exact wpAny_pure ⟨H', I', qz⟩
/-- y in x, x an instance of C with its own __contains__ that answers a bool -/
def rInO (C : Addr) (sp : Sp) (E : XK) : R2 := fun y x H Q => ∃ a dx fs, x = .ref a ∧ H a = some (.ins C dx fs) ∧ sp [x, y] H (fun z H' => ∃ b, z = .bl b ∧ Q (.bl b) H') E
def rNotInO (C : Addr) (sp : Sp) (E : XK) : R2 := fun y x H Q => ∃ a dx fs, x = .ref a ∧ H a = some (.ins C dx fs) ∧ sp [x, y] H (fun z H' => ∃ b, z = .bl b ∧ Q (.bl (!b)) H') E
theorem op_inO (hm : Meth X.K C "__contains__" f) (G : FnB X.prog X.w X.K X.mg X.base k f sp) (hr : Rm j X.A) (hx : Passes (L2.CX X.prog X.w) X E) (hk : k ≤ j := by decide) : OpR X (compareOp .In) (rInO C sp E) := by
  intro pins s σ H y x u v Q I ry rx h
  obtain ⟨p, dx, fs, rfl, hp, q⟩ := h
  cases (show v = Value.ref p from rx)
  obtain ⟨mA, O, _⟩ := ins_get I.hok hp
  obtain ⟨od, J, _⟩ := O.look
  obtain ⟨m, Fr⟩ := I.fr
  refine PySem.W.in_K Fr I.ok.mod.kin J hm.at_ hm.fn (wpAny_mono (wpAny_call (runB (us := [.ref p, u]) (vs := [.ref p, y]) G (hr.mono hk) I.env0 hx I (.cons rfl (.cons ry .nil)) q)) (fun w s' z => ?_) fun _ _ z => z)
  obtain ⟨z', H', I', rz, b, eb, qz⟩ := z
  subst eb
  cases (show w = Value.bool b from rz)
  exact wpAny_truthy_bool ⟨.bl b, H', I', rfl, qz⟩
theorem op_notInO (hm : Meth X.K C "__contains__" f) (G : FnB X.prog X.w X.K X.mg X.base k f sp) (hr : Rm j X.A) (hx : Passes (L2.CX X.prog X.w) X E) (hk : k ≤ j := by decide) : OpR X (compareOp .NotIn) (rNotInO C sp E) := by
  intro pins s σ H y x u v Q I ry rx h
  obtain ⟨p, dx, fs, rfl, hp, q⟩ := h
  cases (show v = Value.ref p from rx)
  obtain ⟨mA, O, _⟩ := ins_get I.hok hp
  obtain ⟨od, J, _⟩ := O.look
  obtain ⟨m, Fr⟩ := I.fr
  refine PySem.W.notIn_K Fr I.ok.mod.kin J hm.at_ hm.fn (wpAny_mono (wpAny_call (runB (us := [.ref p, u]) (vs := [.ref p, y]) G (hr.mono hk) I.env0 hx I (.cons rfl (.cons ry .nil)) q)) (fun w s' z => ?_) fun _ _ z => z)
  obtain ⟨z', H', I', rz, b, eb, qz⟩ := z
  subst eb
  cases (show w = Value.bool b from rz)
  exact wpAny_truthy_bool ⟨.bl (!b), H', I', rfl, qz⟩
/-- dict(d) -/
def rDictC : List V → Hp → VK → Prop := fun xs H Q => ∃ (a : Addr) (kvs : List (Key × V)), xs = [.ref a] ∧ H a = some (.dK kvs) ∧ ∀ p, H p = none → Q (.ref p) (upd H p (.dK kvs))
theorem call_dictC : CallR X (.type "dict") rDictC := by
  intro pins s σ H xs us Q I r h
  obtain ⟨p, kvs, rfl, hp, q⟩ := h
  obtain ⟨u, rfl, ru⟩ := r.one
  cases (show u = Value.ref p from ru)
  exact d_copyOf I (.inl hp) fun p' s' hn I' => ⟨.ref p', _, I', rfl, q p' hn⟩
end
end Ah

/-! sorted of points -/
namespace Ah
open PySem PySem.Spec PySem.Calls PyProof.Rows L2 He SrtO
def IsPtO (h : Heap) (v : Value) (p : Pt) : Prop := ∃ a o t u n, v = .ref a ∧ h.get? a = some o ∧ o.cls = .type "tuple" ∧ o.data = .seq #[.int p.1 t, .str p.2 u] n
theorem IsPtO.keeps {h h' : Heap} {v : Value} {p : Pt} (x : IsPtO h v p) (k : ∀ b o, h.get? b = some o → o.cls = .type "tuple" → h'.get? b = some o) : IsPtO h' v p := by
  obtain ⟨a, o, t, u, n, e, ho, hc, hd⟩ := x
  exact ⟨a, o, t, u, n, e, k _ _ ho hc, hc, hd⟩
theorem ptLt_le {x y z : Pt} (h1 : ptLt y x = false) (h2 : ptLt z y = false) : ptLt z x = false := by
  cases e : ptLt z x with
  | false => rfl
  | true =>
    cases e2 : ptLt x y with
    | true =>
      rw [ptLt_trans e e2] at h2
      cases h2
    | false =>
      have := ptLt_total e2 h1
      subst this
      rw [e] at h2
      cases h2
theorem swo_pt {α : Type} (k : α → Pt) : Swo fun v u => ptLt (k v) (k u) := ⟨fun x y h => ptLt_asymm h, fun x y z h1 h2 => ptLt_le h1 h2⟩
section
variable {prog : Program} {w : World} {A : Around} {E : Value → Shared → Prop} {s : Shared}
theorem firstsP {h : Heap} {k : Value → Pt} : ∀ {vs : List Value}, (∀ v ∈ vs, IsPtO h v (k v)) → ∃ fs : List Value, PySem.W.KatTups h vs fs ∧ fs.length = vs.length ∧ ∀ f ∈ fs, ∃ x t, f = Value.int x t
  | [], _ => ⟨[], PySem.W.KatTups.nil, rfl, fun _ hm => by simp at hm⟩
  | v :: vs, hp => by
    obtain ⟨fs, h1, h2, h3⟩ := firstsP (vs := vs) fun v' hm => hp v' (List.mem_cons_of_mem _ hm)
    obtain ⟨a, o, t, u, n, e, ho, hc, hd⟩ := hp v (List.mem_cons_self ..)
    rw [e]
    refine ⟨.int (k v).1 t :: fs, PySem.W.KatTups.cons ho hc hd rfl h1, by rw [List.length_cons, List.length_cons, h2], fun f hm => ?_⟩
    rcases List.mem_cons.mp hm with rfl | hm
    · exact ⟨_, t, rfl⟩
    · exact h3 f hm
theorem pt_cmp {vs : List Value} {k : Value → Pt} (hp : ∀ v ∈ vs, IsPtO s.heap v (k v)) : Cmp prog w A s (tuples' true) (fun p => p.1 ∈ vs) (lt2 fun v u => ptLt (k v) (k u)) := by
  intro p q hm hm'
  have h1 := hp _ hm
  have h2 := hp _ hm'
  show wpAny (model prog w) A (keyLt' (tuples' true) p.1 q.1) (fun r s' => s' = s ∧ r = ptLt (k p.1) (k q.1)) (fun _ _ => False) s
  rw [ptLt_eq]
  obtain ⟨a, o, t, u, n, e, ho, hc, hd⟩ := h1
  obtain ⟨a', o', t', u', n', e', ho', hc', hd'⟩ := h2
  generalize (k p.1).1 = x at hd ⊢
  generalize (k p.1).2 = y at hd ⊢
  generalize (k q.1).1 = x' at hd' ⊢
  generalize (k q.1).2 = y' at hd' ⊢
  rw [e, e']
  refine PySem.W.kat_lt ho hd ho' hd' ?_
  show PySem.W.KatLex prog w A true (decide (2 < 2)) _ [(.int x t, .int x' t'), (.str y u, .str y' u')] 0 s
  refine PySem.W.kat_cons (SeqAt.EqAt.int_int x t x' t' prog w _ _ ?_)
  refine PySem.W.kat_go (fun e1 => ?_) (fun e1 => ?_)
  · have ex : x = x' := by simpa using e1
    refine PySem.W.kat_yes (PySem.W.kat_cons (SeqAt.EqAt.str_str y u y' u' prog w _ _ ?_))
    refine PySem.W.kat_go (fun e2 => ?_) (fun e2 => ?_)
    · have ey : y = y' := by simpa using e2
      refine PySem.W.kat_yes (PySem.W.kat_nil ⟨rfl, ?_⟩)
      subst ex ey
      simp
    · refine PySem.W.kat_no (PySem.W.kat_one _ _ (PyProof.Rows.lt_str ?_))
      refine (show s = s ∧ decide (y.cps.toList < y'.cps.toList) = _ from ⟨rfl, ?_⟩)
      subst ex
      simp
  · have ex : ¬ x = x' := by simpa using e1
    refine PySem.W.kat_no (oneLt_int ⟨rfl, ?_⟩)
    simp [ex]
theorem pts_sortable {a : Addr} {vs : List Value} {k : Value → Pt} (h0 : 0 < vs.length) (hp : ∀ v ∈ vs, IsPtO s.heap v (k v)) (ha : ∀ o, s.heap.get? a = some o → o.cls ≠ .type "tuple") : SortableO prog w A s a vs fun v u => ptLt (k v) (k u) := by
  intro h' keep
  have hp' : ∀ v ∈ vs, IsPtO h' v (k v) := fun v hm => (hp v hm).keeps fun b o e c => keep b o (fun z => by subst z; exact ha o e c) e
  obtain ⟨fs, h1, h2, h3⟩ := firstsP hp'
  refine ⟨tuples' true, fun Q E hq => ?_, pt_cmp hp'⟩
  refine PySem.W.kat_kind (T := .type "int") h1 (by omega) (fun f hm => ?_) (by rfl) ?_
  · obtain ⟨x, t, rfl⟩ := h3 f hm
    exact PySem.W.Looks.now
  · have e : (Value.type "int" != Value.type "tuple") = true := by first | decide +kernel | rfl | decide
    rw [e]
    exact hq
theorem sorted_pts {l : Addr} {vs : List Value} {k : Value → Pt} {Q : Value → Shared → Prop} (hl : s.heap.IsList l vs.toArray) (hz : vs.length ≤ sizeLine) (hp : ∀ v ∈ vs, IsPtO s.heap v (k v))
    (h : ∀ (h' : Heap) (d : Addr) (out : List Value), Srtd (fun v u => ptLt (k v) (k u)) out → Stb (fun v u => ptLt (k v) (k u)) out vs → (∀ b o, s.heap.get? b = some o → h'.get? b = some o) → s.heap.objs.size ≤ d → (∃ n, h'.get? d = some (seqObj "list" out.toArray n)) → Q (.ref d) { s with heap := h' }) :
    wpAny (model prog w) A (call (.builtin "sorted") [.ref l]) Q E s := by
  refine sorted_ord (swo_pt k) hl hz (fun h2 h₁ a ha kk => ?_) fun out hs hb => ?_
  · refine pts_sortable (s := { s with heap := h₁ }) (by omega) (fun v hm => (hp v hm).keeps fun b o e _ => (kk b o e).2) fun o e => ?_
    have e' : some o = some (seqObj "list" vs.toArray 0) := e.symm.trans ha
    cases e'
    intro c
    exact absurd (Value.type.inj c) (by decide)
  · exact h _ _ out hs hb (fun b o e => sortedAll_old e) (Nat.le_succ _) (sortedAll_at s.heap vs out.toArray)
end
/-- points lie at these addresses -/
inductive PtsAt (H : Hp) : List Addr → List Pt → Prop
  | nil : PtsAt H [] []
  | cons {a : Addr} {p : Pt} {as : List Addr} {ps : List Pt} (h : PtAt H a p) (t : PtsAt H as ps) : PtsAt H (a :: as) (p :: ps)
theorem PtsAt.tk {H H' : Hp} {as : List Addr} {ps : List Pt} (h : PtsAt H as ps) (t : Tk H H') : PtsAt H' as ps := by
  induction h with
  | nil => exact .nil
  | cons h _ ih => exact .cons (t _ _ h) ih
theorem PtsAt.len {H : Hp} {as : List Addr} {ps : List Pt} (h : PtsAt H as ps) : as.length = ps.length := by
  induction h with
  | nil => rfl
  | cons _ _ ih => simp [ih]
theorem PtsAt.at {H : Hp} {as : List Addr} {ps : List Pt} (h : PtsAt H as ps) {i : Nat} {a : Addr} (e : as[i]? = some a) : ∃ p, ps[i]? = some p ∧ PtAt H a p := by
  induction h generalizing i with
  | nil => simp at e
  | cons h t ih =>
    cases i with
    | zero =>
      simp at e
      subst e
      exact ⟨_, rfl, h⟩
    | succ i => exact ih (by simpa using e)
theorem PtsAt.app {H : Hp} {as bs : List Addr} {ps qs : List Pt} (h : PtsAt H as ps) (g : PtsAt H bs qs) : PtsAt H (as ++ bs) (ps ++ qs) := by
  induction h with
  | nil => exact g
  | cons h _ ih => exact .cons h ih
/-- the point at an address -/
noncomputable def ptOf (H : Hp) (a : Addr) : Pt := match H a with
  | some (.tup [.int i, .str z]) => (i, z)
  | _ => (0, Str.empty)
theorem ptOf_at {H : Hp} {a : Addr} {p : Pt} (h : PtAt H a p) : ptOf H a = p := by
  unfold ptOf
  rw [show H a = some (.tup [.int p.1, .str p.2]) from h]
theorem PtsAt.map {H : Hp} {as : List Addr} {ps : List Pt} (h : PtsAt H as ps) : as.map (ptOf H) = ps := by
  induction h with
  | nil => rfl
  | cons h _ ih => rw [List.map_cons, ih, ptOf_at h]
theorem PtsAt.of_mem {H : Hp} {as : List Addr} {ps : List Pt} (h : PtsAt H as ps) : ∀ a ∈ as, PtAt H a (ptOf H a) := by
  induction h with
  | nil => exact fun a ha => by cases ha
  | cons h _ ih =>
    intro a ha
    rcases List.mem_cons.mp ha with rfl | ha
    · rw [ptOf_at h]
      exact h
    · exact ih a ha
theorem ptsAt_map {H : Hp} : ∀ {as : List Addr}, (∀ a ∈ as, PtAt H a (ptOf H a)) → PtsAt H as (as.map (ptOf H))
  | [], _ => .nil
  | a :: as, h => .cons (h a (List.mem_cons_self)) (ptsAt_map fun b hb => h b (List.mem_cons_of_mem _ hb))
/-- sorted: no later point before an earlier one -/
def PtOrd (ps : List Pt) : Prop := ps.Pairwise fun a b => ptLt b a = false
theorem ptOrd_uniq : ∀ {l m : List Pt}, PtOrd l → PtOrd m → l.Perm m → l = m
  | [], m, _, _, h => (List.Perm.eq_nil h.symm).symm
  | x :: l, [], _, _, h => absurd h.length_eq (by simp)
  | x :: l, y :: m, hl, hm, h => by
    have a1 := List.pairwise_cons.mp hl
    have a2 := List.pairwise_cons.mp hm
    have e : x = y := by
      rcases List.mem_cons.mp (h.mem_iff.mp (List.mem_cons_self (a := x) (l := l))) with e | hx
      · exact e
      · rcases List.mem_cons.mp (h.mem_iff.mpr (List.mem_cons_self (a := y) (l := m))) with e | hy
        · exact e.symm
        · exact ptLt_total (a2.1 x hx) (a1.1 y hy)
    subst e
    rw [ptOrd_uniq a1.2 a2.2 h.cons_inv]
/-- sorted(l), l a list of points -/
def rSortPt (K : Frag) : List V → Hp → VK → Prop := fun vs H Q => ∃ (l : Addr) (as : List Addr) (ps : List Pt), vs = [.ref l] ∧ SqL K H l (as.map V.ref) ∧ PtsAt H as ps ∧
  ∀ r bs qs, H r = none → PtsAt H bs qs → qs.Perm ps → PtOrd qs → Q (.ref r) (upd H r (.lst (bs.map V.ref)))
theorem map_unref {l : List Value} {as : List Addr} (h : Vals (as.map V.ref) l) : l = as.map Value.ref := by
  induction as generalizing l with
  | nil => cases h; rfl
  | cons a as ih =>
    cases h with
    | cons h t =>
      cases h
      rw [ih t]
      rfl
theorem vals_refs : ∀ as : List Addr, Vals (as.map V.ref) (as.map Value.ref)
  | [] => .nil
  | _ :: as => .cons rfl (vals_refs as)
section
variable {X : Cx}
theorem cr_sortPt : CallR X (.builtin "sorted") (rSortPt X.K) := by
  intro pins s σ H vs us Q I r h
  obtain ⟨l, as, ps, rfl, hs, hp, q⟩ := h
  obtain ⟨its, rv, hl, hz⟩ := I.list hs
  obtain ⟨u, rfl, ru⟩ := r.one
  obtain rfl : u = Value.ref l := ru
  have ei := map_unref rv
  subst ei
  let k : Value → Pt := fun v => match v with | .ref a => ptOf H a | _ => (0, Str.empty)
  have hk : ∀ v ∈ as.map Value.ref, IsPtO s.heap v (k v) := fun v hv => by
    obtain ⟨a, ha, rfl⟩ := List.mem_map.mp hv
    obtain ⟨_, its2, r2, o, ho, hc, n, hd⟩ := I.hok _ _ (hp.of_mem a ha)
    obtain ⟨u1, u2, rfl, ri, rj⟩ := vals2 r2
    obtain ⟨t1, rfl⟩ := ri
    obtain ⟨t2, rfl⟩ := rj
    exact ⟨a, o, t1, t2, n, rfl, ho, hc, hd⟩
  refine sorted_pts (k := k) hl.isList (by rw [← rv.length]; exact hz) hk fun h' d out h1 h2 kp hd hn => ?_
  obtain ⟨bs, rfl⟩ : ∃ bs : List Addr, out = bs.map Value.ref := by
    have hm : ∀ u ∈ out, ∃ a, u = Value.ref a := fun u hu => by
      obtain ⟨a, _, e⟩ := List.mem_map.mp (h2.perm.mem_iff.mp hu)
      exact ⟨a, e.symm⟩
    clear h1 h2 hn
    induction out with
    | nil => exact ⟨[], rfl⟩
    | cons u out ih =>
      obtain ⟨a, rfl⟩ := hm u (List.mem_cons_self)
      obtain ⟨bs, rfl⟩ := ih fun v hv => hm v (List.mem_cons_of_mem _ hv)
      exact ⟨a :: bs, rfl⟩
  have pm : bs.Perm as := by
    have z := h2.perm.map (fun v : Value => match v with | .ref a => a | _ => 0)
    rw [List.map_map, List.map_map] at z
    simpa [Function.comp_def] using z
  obtain ⟨n, hn⟩ := hn
  refine ⟨.ref d, upd H d (.lst (bs.map V.ref)), I.laid (t' := s.toks) kp hd ⟨?_, bs.map Value.ref, n, vals_refs bs, hn⟩, rfl, q d bs (bs.map (ptOf H)) (I.hok.fresh hd) (ptsAt_map fun a ha => hp.of_mem a (pm.mem_iff.mp ha)) ?_ ?_⟩
  · rw [List.length_map, pm.length_eq]
    rw [List.length_map] at hz
    exact hz
  · rw [← hp.map]
    exact pm.map _
  · have z : List.Pairwise _ (bs.map Value.ref) := h1
    rw [List.pairwise_map] at z
    unfold PtOrd
    rw [List.pairwise_map]
    exact z
end
end Ah

/-! max and min of two points -/
namespace Ah
open PySem PySem.Spec PySem.Calls PyProof.Rows L2 He

theorem max_loop_two {prog : Program} {w : World} {A : Around} {R : Result → Shared → Prop} {I : Addr} {fp wr : List Addr} {P : Nat → Value → Prop} {St : Nat → Heap → Prop} {h0 : Heap} {a b : Value} {c0 : Bool}
    (W : Walks prog w A.in1 I fp wr 2 P St) (S : Addr) (hSf : S ∉ fp) (hw0 : ∀ x ∈ wr, h0.get? x = none) (hS0 : h0.get? S = none) (hPa : ∀ v, P 0 v → v = a) (hPb : ∀ v, P 1 v → v = b)
    (hcmp : ∀ (s' : Shared) (Q' : Value → Shared → Prop) (E' : Value → Shared → Prop), (∀ x o, h0.get? x = some o → s'.heap.get? x = some o) → Q' (.bool c0) s' → wpAny (model prog w) A.in1 (richCompare .Gt b a) Q' E' s')
    {s : Shared} {c : Nat} (hk0 : ∀ x o, h0.get? x = some o → s.heap.get? x = some o) (hst : St 0 s.heap) (hS : s.heap.get? S = some { cls := .type "list", dict := none, data := .seq #[] c, slots := #[] })
    (hR : ∀ h' tk, (∀ x o, h0.get? x = some o → h'.get? x = some o) → R (.ok (.ret (if c0 then b else a))) { s with heap := h', toks := tk }) :
    codeAny (model prog w) A (.builtin "max.loop" ⟨[.ref I, .none, .ref S], []⟩) R s := by
  have hSw : S ∉ wr := fun h => hSf (W.sub _ h)
  have hname : (toString "max" ++ toString ".loop" : String) = "max.loop" := by decide
  -- the end
  have fin : ∀ (s2 : Shared) (v : Value) (c2 : Nat), (∀ x o, h0.get? x = some o → s2.heap.get? x = some o) → St 2 s2.heap → s2.heap.get? S = some { cls := .type "list", dict := none, data := .seq #[v, v] c2, slots := #[] } → (∀ h' tk, (∀ x o, h0.get? x = some o → h'.get? x = some o) → R (.ok (.ret v)) { s2 with heap := h', toks := tk }) → codeAny (model prog w) A (.builtin "max.loop" ⟨[.ref I, .none, .ref S], []⟩) R s2 := by
    intro s2 v c2 hk2 st2 hS2 hR2
    refine codeAny_builtin F.entry_max_loop ?_
    rw [Around.under_plainId F.plain_max_loop _]
    show wpAny _ A.in1 (seqItems? (.ref S) >>= _) _ _ s2
    refine wpAny_bind (wpAny_seqItems hS2 rfl ?_)
    show wpAny _ A.in1 (tryCatch (pyNext (.ref I)) _ >>= _) _ _ s2
    refine wpAny_bind (wpAny_tryCatch (W.done s2 _ _ st2 fun h' tk hk' => ?_))
    have hS' := hk' S _ hSw hS2
    show wpAny _ A.in1 (updateSeq S (fun _ => #[]) >>= _) _ _ _
    refine wpAny_bind ?_
    refine wpAny_updateSeq hS' rfl (wpAny_bind (wpAny_letGo (wpAny_pure ?_)))
    refine hR2 _ tk fun x o e => (Heap.get?_update_other _ _ (fun z : S = x => by rw [← z, hS0] at e; cases e)).trans (hk' x o (fun z => by rw [hw0 x z] at e; cases e) (hk2 x o e))
  refine codeAny_builtin F.entry_max_loop ?_
  rw [Around.under_plainId F.plain_max_loop _]
  show wpAny _ A.in1 (seqItems? (.ref S) >>= _) _ _ s
  refine wpAny_bind (wpAny_seqItems hS rfl ?_)
  show wpAny _ A.in1 (tryCatch (pyNext (.ref I)) _ >>= _) _ _ s
  refine wpAny_bind (wpAny_tryCatch (W.item 0 s _ _ (by decide) hst fun v h1 tk1 hP st1 hk1 => ?_))
  obtain rfl := hPa v hP
  have hS1 := hk1 S _ hSw hS
  show wpAny _ A.in1 (updateSeq S (fun _ => #[v, v]) >>= _) _ _ _
  refine wpAny_bind ?_
  refine wpAny_updateSeq hS1 rfl ?_
  rw [hname]
  refine wpAny_pure ⟨plainId_quiet F.plain_max_loop _, ?_⟩
  have hkA : ∀ x o, h0.get? x = some o → h1.get? x = some o := fun x o e => hk1 x o (fun z => by rw [hw0 x z] at e; cases e) (hk0 x o e)
  have hSA := Heap.get?_update_self (h := h1) (Obj.mapSeq (fun _ => #[v, v])) hS1 rfl
  have stA : St 1 (h1.update S (Obj.mapSeq (fun _ => #[v, v]))) := W.frame _ _ _ st1 fun x hx o e => (Heap.get?_update_other _ _ (fun h : S = x => hSf (by rw [h]; exact hx))).trans e
  have hkB : ∀ x o, h0.get? x = some o → (h1.update S (Obj.mapSeq (fun _ => #[v, v]))).get? x = some o := fun x o e => (Heap.get?_update_other _ _ (fun z : S = x => by rw [← z, hS0] at e; cases e)).trans (hkA x o e)
  generalize hgB : h1.update S (Obj.mapSeq (fun _ => #[v, v])) = hB at hSA stA hkB
  -- the second
  refine codeAny_builtin F.entry_max_loop ?_
  rw [Around.under_plainId F.plain_max_loop _]
  show wpAny _ A.in1 (seqItems? (.ref S) >>= _) _ _ _
  refine wpAny_bind (wpAny_seqItems (by first | exact hSA | (rw [← hgB] at hSA; exact hSA)) rfl ?_)
  show wpAny _ A.in1 (tryCatch (pyNext (.ref I)) _ >>= _) _ _ _
  refine wpAny_bind (wpAny_tryCatch (W.item 1 _ _ _ (by decide) (by first | exact stA | (rw [← hgB] at stA; exact stA)) fun u h2 tk2 hP2 st2 hk2 => ?_))
  obtain rfl := hPb u hP2
  have hS2 := hk2 S _ hSw (by first | exact hSA | (rw [← hgB] at hSA; exact hSA))
  have hkC : ∀ x o, h0.get? x = some o → h2.get? x = some o := fun x o e => hk2 x o (fun z => by rw [hw0 x z] at e; cases e) (by first | exact hkB x o e | (rw [← hgB] at hkB; exact hkB x o e))
  show wpAny _ A.in1 (tryCatch (holding [u, u] (richCompare .Gt u v >>= _)) _ >>= _) _ _ _
  refine wpAny_bind (wpAny_tryCatch (wpAny_holding (wpAny_bind (hcmp _ _ _ hkC ?_))))
  refine wpAny_bind (wpAny_holding (wpAny_truthy_bool ?_))
  refine wpAny_bind (wpAny_letGo (wpAny_pure ?_))
  cases c0 with
  | true =>
    simp only [if_true]
    refine wpAny_bind ?_
    refine wpAny_updateSeq hS2 rfl (wpAny_bind (wpAny_letGo ?_))
    rw [hname]
    refine wpAny_pure ⟨plainId_quiet F.plain_max_loop _, fin _ u _ (fun x o e => (Heap.get?_update_other _ _ (fun z : S = x => by rw [← z, hS0] at e; cases e)).trans (hkC x o e)) (W.frame _ _ _ st2 fun x hx o e => (Heap.get?_update_other _ _ (fun h : S = x => hSf (by rw [h]; exact hx))).trans e) (Heap.get?_update_self _ hS2 rfl) fun h' tk hk => ?_⟩
    exact hR h' tk hk
  | false =>
    simp only [Bool.false_eq_true, if_false]
    refine wpAny_bind (wpAny_letGo ?_)
    rw [hname]
    refine wpAny_pure ⟨plainId_quiet F.plain_max_loop _, fin _ v _ hkC st2 hS2 fun h' tk hk => ?_⟩
    exact hR h' tk hk
theorem max_two_on {prog : Program} {w : World} {A : Around} {E : Value → Shared → Prop} {s : Shared} {a b : Value} {c0 : Bool} {Q : Value → Shared → Prop} (hh : A.handled = none)
    (hcmp : ∀ (s' : Shared) (Q' : Value → Shared → Prop) (E' : Value → Shared → Prop), (∀ x o, s.heap.get? x = some o → s'.heap.get? x = some o) → Q' (.bool c0) s' → wpAny (model prog w) A.in1 (richCompare .Gt b a) Q' E' s')
    (h : ∀ h' tk, (∀ x o, s.heap.get? x = some o → h'.get? x = some o) → Q (if c0 then b else a) { s with heap := h', toks := tk }) : wpAny (model prog w) A (call (.builtin "max") [a, b]) Q E s := by
  have hname : (toString "max" ++ toString ".loop" : String) = "max.loop" := by decide
  have hT : (s.heap.push { cls := .type "tuple", data := .seq #[a, b] }).IsTuple s.heap.objs.size #[a, b] := ⟨_, Heap.get?_push_size _ rfl, rfl, 0, rfl⟩
  have hsz : (s.heap.push { cls := .type "tuple", data := .seq #[a, b] }).objs.size = s.heap.objs.size + 1 := Heap.size_push ..
  refine call_function_tree F.kind_max F.plain_max F.entry_max (F.args_max2 _ _) ?_
  show wpAny _ A.in1 (Builtin.Builtins.bindParams "max" ["key", "default"] 0 ⟨[], []⟩ >>= _) _ _ s
  refine wpAny_bind (wpAny_of_eq (show Builtin.Builtins.bindParams "max" ["key", "default"] 0 ⟨[], []⟩ = pure [none, none] from rfl) ?_)
  show wpAny _ A.in1 (newTuple [a, b] >>= _) _ _ s
  refine wpAny_bind (wpAny_newObj_type ?_)
  refine wpAny_bind (wpAny_pyIter_tuple hT ?_)
  refine wpAny_bind (wpAny_newObj_type ?_)
  rw [hname]
  have nos : ∀ x, s.heap.objs.size ≤ x → s.heap.get? x = none := fun x hx => by
    cases e : s.heap.get? x with
    | none => rfl
    | some o => exact absurd (Heap.lt_size e) (Nat.not_lt.mpr hx)
  refine wpAny_pure ⟨plainId_quiet F.plain_max_loop _, max_loop_two (h0 := s.heap) (Walks.tuple (A := A.in1) hh _ s.heap.objs.size (by rw [hsz]; exact Nat.ne_of_lt (Nat.lt_succ_self _)) #[a, b]) _ (fun hm => ?_) (fun x hx => ?_) (nos _ ?_) (fun v hv => by simpa using hv.symm) (fun v hv => by simpa using hv.symm) hcmp (fun x o e => ?_) ?_ (Heap.get?_push_size _ rfl) fun h' tk hk => h h' tk hk⟩
  · rcases List.mem_cons.mp hm with e | hm
    · dsimp only at e
      rw [Heap.size_push] at e
      exact absurd e (Nat.succ_ne_self _)
    · have e := List.mem_singleton.mp hm
      dsimp only at e
      rw [Heap.size_push, hsz] at e
      exact absurd e (show s.heap.objs.size + 1 + 1 ≠ s.heap.objs.size from fun z => by
        have z' : (s.heap.objs.size : Nat) + 2 = s.heap.objs.size := z
        omega)
  · rw [List.mem_singleton.mp hx, hsz]
    exact nos _ (Nat.le_succ _)
  · rw [Heap.size_push, hsz]
    omega
  · exact Heap.get?_push_of_some _ (Heap.get?_push_of_some _ (Heap.get?_push_of_some _ e))
  · exact ⟨⟨_, Heap.get?_push_of_some _ (Heap.get?_push_size _ rfl), rfl, rfl⟩, (hT.push _).push _⟩

theorem min_loop_two {prog : Program} {w : World} {A : Around} {R : Result → Shared → Prop} {I : Addr} {fp wr : List Addr} {P : Nat → Value → Prop} {St : Nat → Heap → Prop} {h0 : Heap} {a b : Value} {c0 : Bool}
    (W : Walks prog w A.in1 I fp wr 2 P St) (S : Addr) (hSf : S ∉ fp) (hw0 : ∀ x ∈ wr, h0.get? x = none) (hS0 : h0.get? S = none) (hPa : ∀ v, P 0 v → v = a) (hPb : ∀ v, P 1 v → v = b)
    (hcmp : ∀ (s' : Shared) (Q' : Value → Shared → Prop) (E' : Value → Shared → Prop), (∀ x o, h0.get? x = some o → s'.heap.get? x = some o) → Q' (.bool c0) s' → wpAny (model prog w) A.in1 (richCompare .Lt b a) Q' E' s')
    {s : Shared} {c : Nat} (hk0 : ∀ x o, h0.get? x = some o → s.heap.get? x = some o) (hst : St 0 s.heap) (hS : s.heap.get? S = some { cls := .type "list", dict := none, data := .seq #[] c, slots := #[] })
    (hR : ∀ h' tk, (∀ x o, h0.get? x = some o → h'.get? x = some o) → R (.ok (.ret (if c0 then b else a))) { s with heap := h', toks := tk }) :
    codeAny (model prog w) A (.builtin "min.loop" ⟨[.ref I, .none, .ref S], []⟩) R s := by
  have hSw : S ∉ wr := fun h => hSf (W.sub _ h)
  have hname : (toString "min" ++ toString ".loop" : String) = "min.loop" := by decide
  -- the end
  have fin : ∀ (s2 : Shared) (v : Value) (c2 : Nat), (∀ x o, h0.get? x = some o → s2.heap.get? x = some o) → St 2 s2.heap → s2.heap.get? S = some { cls := .type "list", dict := none, data := .seq #[v, v] c2, slots := #[] } → (∀ h' tk, (∀ x o, h0.get? x = some o → h'.get? x = some o) → R (.ok (.ret v)) { s2 with heap := h', toks := tk }) → codeAny (model prog w) A (.builtin "min.loop" ⟨[.ref I, .none, .ref S], []⟩) R s2 := by
    intro s2 v c2 hk2 st2 hS2 hR2
    refine codeAny_builtin F.entry_min_loop ?_
    rw [Around.under_plainId F.plain_min_loop _]
    show wpAny _ A.in1 (seqItems? (.ref S) >>= _) _ _ s2
    refine wpAny_bind (wpAny_seqItems hS2 rfl ?_)
    show wpAny _ A.in1 (tryCatch (pyNext (.ref I)) _ >>= _) _ _ s2
    refine wpAny_bind (wpAny_tryCatch (W.done s2 _ _ st2 fun h' tk hk' => ?_))
    have hS' := hk' S _ hSw hS2
    show wpAny _ A.in1 (updateSeq S (fun _ => #[]) >>= _) _ _ _
    refine wpAny_bind ?_
    refine wpAny_updateSeq hS' rfl (wpAny_bind (wpAny_letGo (wpAny_pure ?_)))
    refine hR2 _ tk fun x o e => (Heap.get?_update_other _ _ (fun z : S = x => by rw [← z, hS0] at e; cases e)).trans (hk' x o (fun z => by rw [hw0 x z] at e; cases e) (hk2 x o e))
  refine codeAny_builtin F.entry_min_loop ?_
  rw [Around.under_plainId F.plain_min_loop _]
  show wpAny _ A.in1 (seqItems? (.ref S) >>= _) _ _ s
  refine wpAny_bind (wpAny_seqItems hS rfl ?_)
  show wpAny _ A.in1 (tryCatch (pyNext (.ref I)) _ >>= _) _ _ s
  refine wpAny_bind (wpAny_tryCatch (W.item 0 s _ _ (by decide) hst fun v h1 tk1 hP st1 hk1 => ?_))
  obtain rfl := hPa v hP
  have hS1 := hk1 S _ hSw hS
  show wpAny _ A.in1 (updateSeq S (fun _ => #[v, v]) >>= _) _ _ _
  refine wpAny_bind ?_
  refine wpAny_updateSeq hS1 rfl ?_
  rw [hname]
  refine wpAny_pure ⟨plainId_quiet F.plain_min_loop _, ?_⟩
  have hkA : ∀ x o, h0.get? x = some o → h1.get? x = some o := fun x o e => hk1 x o (fun z => by rw [hw0 x z] at e; cases e) (hk0 x o e)
  have hSA := Heap.get?_update_self (h := h1) (Obj.mapSeq (fun _ => #[v, v])) hS1 rfl
  have stA : St 1 (h1.update S (Obj.mapSeq (fun _ => #[v, v]))) := W.frame _ _ _ st1 fun x hx o e => (Heap.get?_update_other _ _ (fun h : S = x => hSf (by rw [h]; exact hx))).trans e
  have hkB : ∀ x o, h0.get? x = some o → (h1.update S (Obj.mapSeq (fun _ => #[v, v]))).get? x = some o := fun x o e => (Heap.get?_update_other _ _ (fun z : S = x => by rw [← z, hS0] at e; cases e)).trans (hkA x o e)
  generalize hgB : h1.update S (Obj.mapSeq (fun _ => #[v, v])) = hB at hSA stA hkB
  -- the second
  refine codeAny_builtin F.entry_min_loop ?_
  rw [Around.under_plainId F.plain_min_loop _]
  show wpAny _ A.in1 (seqItems? (.ref S) >>= _) _ _ _
  refine wpAny_bind (wpAny_seqItems (by first | exact hSA | (rw [← hgB] at hSA; exact hSA)) rfl ?_)
  show wpAny _ A.in1 (tryCatch (pyNext (.ref I)) _ >>= _) _ _ _
  refine wpAny_bind (wpAny_tryCatch (W.item 1 _ _ _ (by decide) (by first | exact stA | (rw [← hgB] at stA; exact stA)) fun u h2 tk2 hP2 st2 hk2 => ?_))
  obtain rfl := hPb u hP2
  have hS2 := hk2 S _ hSw (by first | exact hSA | (rw [← hgB] at hSA; exact hSA))
  have hkC : ∀ x o, h0.get? x = some o → h2.get? x = some o := fun x o e => hk2 x o (fun z => by rw [hw0 x z] at e; cases e) (by first | exact hkB x o e | (rw [← hgB] at hkB; exact hkB x o e))
  show wpAny _ A.in1 (tryCatch (holding [u, u] (richCompare .Lt u v >>= _)) _ >>= _) _ _ _
  refine wpAny_bind (wpAny_tryCatch (wpAny_holding (wpAny_bind (hcmp _ _ _ hkC ?_))))
  refine wpAny_bind (wpAny_holding (wpAny_truthy_bool ?_))
  refine wpAny_bind (wpAny_letGo (wpAny_pure ?_))
  cases c0 with
  | true =>
    simp only [if_true]
    refine wpAny_bind ?_
    refine wpAny_updateSeq hS2 rfl (wpAny_bind (wpAny_letGo ?_))
    rw [hname]
    refine wpAny_pure ⟨plainId_quiet F.plain_min_loop _, fin _ u _ (fun x o e => (Heap.get?_update_other _ _ (fun z : S = x => by rw [← z, hS0] at e; cases e)).trans (hkC x o e)) (W.frame _ _ _ st2 fun x hx o e => (Heap.get?_update_other _ _ (fun h : S = x => hSf (by rw [h]; exact hx))).trans e) (Heap.get?_update_self _ hS2 rfl) fun h' tk hk => ?_⟩
    exact hR h' tk hk
  | false =>
    simp only [Bool.false_eq_true, if_false]
    refine wpAny_bind (wpAny_letGo ?_)
    rw [hname]
    refine wpAny_pure ⟨plainId_quiet F.plain_min_loop _, fin _ v _ hkC st2 hS2 fun h' tk hk => ?_⟩
    exact hR h' tk hk
theorem min_two_on {prog : Program} {w : World} {A : Around} {E : Value → Shared → Prop} {s : Shared} {a b : Value} {c0 : Bool} {Q : Value → Shared → Prop} (hh : A.handled = none)
    (hcmp : ∀ (s' : Shared) (Q' : Value → Shared → Prop) (E' : Value → Shared → Prop), (∀ x o, s.heap.get? x = some o → s'.heap.get? x = some o) → Q' (.bool c0) s' → wpAny (model prog w) A.in1 (richCompare .Lt b a) Q' E' s')
    (h : ∀ h' tk, (∀ x o, s.heap.get? x = some o → h'.get? x = some o) → Q (if c0 then b else a) { s with heap := h', toks := tk }) : wpAny (model prog w) A (call (.builtin "min") [a, b]) Q E s := by
  have hname : (toString "min" ++ toString ".loop" : String) = "min.loop" := by decide
  have hT : (s.heap.push { cls := .type "tuple", data := .seq #[a, b] }).IsTuple s.heap.objs.size #[a, b] := ⟨_, Heap.get?_push_size _ rfl, rfl, 0, rfl⟩
  have hsz : (s.heap.push { cls := .type "tuple", data := .seq #[a, b] }).objs.size = s.heap.objs.size + 1 := Heap.size_push ..
  refine call_function_tree F.kind_min F.plain_min F.entry_min (F.args_min2 _ _) ?_
  show wpAny _ A.in1 (Builtin.Builtins.bindParams "min" ["key", "default"] 0 ⟨[], []⟩ >>= _) _ _ s
  refine wpAny_bind (wpAny_of_eq (show Builtin.Builtins.bindParams "min" ["key", "default"] 0 ⟨[], []⟩ = pure [none, none] from rfl) ?_)
  show wpAny _ A.in1 (newTuple [a, b] >>= _) _ _ s
  refine wpAny_bind (wpAny_newObj_type ?_)
  refine wpAny_bind (wpAny_pyIter_tuple hT ?_)
  refine wpAny_bind (wpAny_newObj_type ?_)
  rw [hname]
  have nos : ∀ x, s.heap.objs.size ≤ x → s.heap.get? x = none := fun x hx => by
    cases e : s.heap.get? x with
    | none => rfl
    | some o => exact absurd (Heap.lt_size e) (Nat.not_lt.mpr hx)
  refine wpAny_pure ⟨plainId_quiet F.plain_min_loop _, min_loop_two (h0 := s.heap) (Walks.tuple (A := A.in1) hh _ s.heap.objs.size (by rw [hsz]; exact Nat.ne_of_lt (Nat.lt_succ_self _)) #[a, b]) _ (fun hm => ?_) (fun x hx => ?_) (nos _ ?_) (fun v hv => by simpa using hv.symm) (fun v hv => by simpa using hv.symm) hcmp (fun x o e => ?_) ?_ (Heap.get?_push_size _ rfl) fun h' tk hk => h h' tk hk⟩
  · rcases List.mem_cons.mp hm with e | hm
    · dsimp only at e
      rw [Heap.size_push] at e
      exact absurd e (Nat.succ_ne_self _)
    · have e := List.mem_singleton.mp hm
      dsimp only at e
      rw [Heap.size_push, hsz] at e
      exact absurd e (show s.heap.objs.size + 1 + 1 ≠ s.heap.objs.size from fun z => by
        have z' : (s.heap.objs.size : Nat) + 2 = s.heap.objs.size := z
        omega)
  · rw [List.mem_singleton.mp hx, hsz]
    exact nos _ (Nat.le_succ _)
  · rw [Heap.size_push, hsz]
    omega
  · exact Heap.get?_push_of_some _ (Heap.get?_push_of_some _ (Heap.get?_push_of_some _ e))
  · exact ⟨⟨_, Heap.get?_push_of_some _ (Heap.get?_push_size _ rfl), rfl, rfl⟩, (hT.push _).push _⟩

section
variable {X : Cx}
theorem reads_keep {h h' : Heap} (k : ∀ x o, h.get? x = some o → h'.get? x = some o) {v : Value} {d : PyData} {as : List Addr} (r : Reads h v d as) : Reads h' v d as := PyProof.Rows.Reads.keeps k r
/-- max(x, y) of points -/
def rMaxP : List V → Hp → VK → Prop := fun xs H Q => ∃ (a b : Addr) (p q : Pt), xs = [.ref a, .ref b] ∧ PtAt H a p ∧ PtAt H b q ∧ Q (if ptLt p q then .ref b else .ref a) H
def rMinP : List V → Hp → VK → Prop := fun xs H Q => ∃ (a b : Addr) (p q : Pt), xs = [.ref a, .ref b] ∧ PtAt H a p ∧ PtAt H b q ∧ Q (if ptLt q p then .ref b else .ref a) H
theorem call_maxP (hc : X.calm = true) (hu : X.A.units + 64 < cLine) : CallR X (.builtin "max") rMaxP := by
  intro pins s σ H xs us Q I r h
  obtain ⟨a, b, p, q, rfl, hp, hq, k⟩ := h
  obtain ⟨u, v, rfl, ru, rv⟩ := vals2 r
  obtain ⟨as, r1⟩ := Dp.reads I _ _ u hp.dp ru
  obtain ⟨bs, r2⟩ := Dp.reads I _ _ v hq.dp rv
  refine max_two_on (c0 := ptLt p q) (I.ok.hd hc) (fun s' Q' E' kk hq' => ?_) fun h' tk kk => ⟨_, H, I.kept (t' := tk) kk, ?_, k⟩
  · exact PySem.W.gt_data (reads_keep kk r2) (reads_keep kk r1) (pt_alike q p) (by intro z; cases z) (by show X.A.units + 1 + _ < _; simp [ptD, PyData.depth, PyData.depthAll]; omega) hq'
  · cases ptLt p q
    · exact ru
    · exact rv
theorem call_minP (hc : X.calm = true) (hu : X.A.units + 64 < cLine) : CallR X (.builtin "min") rMinP := by
  intro pins s σ H xs us Q I r h
  obtain ⟨a, b, p, q, rfl, hp, hq, k⟩ := h
  obtain ⟨u, v, rfl, ru, rv⟩ := vals2 r
  obtain ⟨as, r1⟩ := Dp.reads I _ _ u hp.dp ru
  obtain ⟨bs, r2⟩ := Dp.reads I _ _ v hq.dp rv
  refine min_two_on (c0 := ptLt q p) (I.ok.hd hc) (fun s' Q' E' kk hq' => ?_) fun h' tk kk => ⟨_, H, I.kept (t' := tk) kk, ?_, k⟩
  · exact PySem.W.lt_data (reads_keep kk r2) (reads_keep kk r1) (pt_alike q p) (by intro z; cases z) (by show X.A.units + 1 + _ < _; simp [ptD, PyData.depth, PyData.depthAll]; omega) hq'
  · cases ptLt q p
    · exact ru
    · exact rv
end
end Ah

/-! rows of a dict of texts and ints, in the order of points -/
namespace Ah
open PySem PySem.Spec PySem.Calls PyProof.Rows L2 He
def keyStr : Key → Str
  | .inr z => z
  | .inl _ => Str.empty
/-- rows lie at these addresses -/
inductive RowsP (H : Hp) : List Addr → List (Str × Int) → Prop
  | nil : RowsP H [] []
  | cons {a : Addr} {r : Str × Int} {as : List Addr} {rs : List (Str × Int)} (h : H a = some (.tup [.str r.1, .int r.2])) (t : RowsP H as rs) : RowsP H (a :: as) (r :: rs)
section
variable {H H' : Hp} {as bs : List Addr} {rs ss : List (Str × Int)}
theorem RowsP.tk (h : RowsP H as rs) (t : Tk H H') : RowsP H' as rs := by
  induction h with
  | nil => exact .nil
  | cons h _ ih => exact .cons (t _ _ h) ih
theorem RowsP.len (h : RowsP H as rs) : as.length = rs.length := by
  induction h with
  | nil => rfl
  | cons _ _ ih => simp [ih]
theorem RowsP.app (h : RowsP H as rs) (g : RowsP H bs ss) : RowsP H (as ++ bs) (rs ++ ss) := by
  induction h with
  | nil => exact g
  | cons h _ ih => exact .cons h ih
theorem RowsP.take (h : RowsP H as rs) (n : Nat) : RowsP H (as.take n) (rs.take n) := by
  induction h generalizing n with
  | nil => simpa using RowsP.nil
  | cons h t ih =>
    cases n with
    | zero => simpa using RowsP.nil
    | succ n => exact .cons h (ih n)
theorem RowsP.dps {K : Frag} (h : RowsP H as rs) : DpAll K H (as.map V.ref) (rs.map fun r => .tuple [.str r.1, .int r.2]) := by
  induction h with
  | nil => exact .nil
  | cons h _ ih => exact .cons (.tup (SqT.of h) (.cons (.str _) (.cons (.int _) .nil))) ih
end
/-- a comprehension over the keys of a locked dict, a point made of each -/
theorem lc_keysP {td te : TE} {σ : L2.St} {i : Nat} {H : Hp} {R : Addr} {kvs : List (Key × V)} {f : Str → Pt} {Q : VK} (hR : H R = some (.dK kvs)) (hk : ∀ p ∈ kvs, ∃ z v, p = (Sum.inr z, v)) (few : kvs.length ≤ 1000)
    (hd : ∀ G Q', Ex R H G → Q' (.ref R) G → td σ G Q')
    (he : ∀ z v G Q', (Sum.inr z, v) ∈ kvs → Ex R H G → (∀ a, G a = none → Q' (.ref a) (upd G a (.tup [.int (f z).1, .str (f z).2]))) → te ((wipe σ [i]).set i (some (.str z))) G Q')
    (hw : ∀ x, wipe ((wipe σ [i]).set i (some x)) [i] = wipe σ [i])
    (q : ∀ H' D bs, Same H H' → H D = none → H' D = some (.lst (bs.map V.ref)) → PtsAt H' bs (kvs.map fun p => f (keyStr p.1)) → Q (.ref D) H') : tLockE (tLc (iKeys td) (gName i) tYes te [i]) σ H Q := by
  refine ⟨R, .dK kvs, hR, trivial, fun od => ?_⟩
  have exL : Ex R H (upd H R (.frz od (.dK kvs))) := Ex.refl.upd
  refine hd _ _ exL ⟨R, od, rfl, .inl ⟨kvs, upd_same, fun D hD => ?_⟩⟩
  have hDR : D ≠ R := fun z => by
    rw [z, upd_same] at hD
    cases hD
  have hD0 : H D = none := by
    rw [upd_ne hDR] at hD
    exact hD
  refine lc_it walk_keys (fun j H2 => ∃ bs, H2 D = some (.lst (bs.map V.ref)) ∧ bs.length = j ∧ PtsAt H2 bs ((kvs.take j).map fun p => f (keyStr p.1)) ∧ H2 R = some (.frz od (.dK kvs)) ∧ Ex R H H2) ?_ (fun j H2 _ ⟨_, _, _, _, h, _⟩ => h) ?_ ?_
  · refine ⟨[], upd_same, rfl, (by rw [List.take_zero]; exact .nil), (by rw [upd_ne hDR.symm, upd_same]), fun b o hb h => ?_⟩
    rw [upd_ne (ne_of_none h hD0), upd_ne hb]
    exact h
  · rintro j x H2 H3 hj ⟨bs, hb, hl, hp, hr, ex⟩ ⟨rfl, k, v, hkv, rfl⟩
    obtain ⟨z, v', e⟩ := hk (k, v) (List.mem_of_getElem? hkv)
    cases e
    refine ⟨hw _, ?_⟩
    dsimp only [tYes]
    rw [if_pos rfl]
    refine he z v H3 _ (List.mem_of_getElem? hkv) ex fun a ha => ?_
    have hDa : D ≠ a := (ne_of_none hb ha)
    refine ⟨_, by rw [upd_ne hDa]; exact hb, (by rw [List.length_map, sizeLine_eq]; omega), bs ++ [a], ?_, ?_, ?_, ?_, ?_⟩
    · rw [upd_same, List.map_append]
      rfl
    · rw [List.length_append, hl]
      rfl
    · have e1 : (kvs.take (j + 1)).map (fun p => f (keyStr p.1)) = (kvs.take j).map (fun p => f (keyStr p.1)) ++ [f z] := by
        rw [List.take_add_one, hkv, List.map_append]
        rfl
      rw [e1]
      have t1 : Tk H3 (upd H3 a (.tup [.int (f z).1, .str (f z).2])) := Tk.same (Same.upd (Same.refl _) ha)
      have t2 : Tk (upd H3 a (.tup [.int (f z).1, .str (f z).2])) (upd (upd H3 a (.tup [.int (f z).1, .str (f z).2])) D (.lst (bs.map V.ref ++ [.ref a]))) := Tk.upd (by rw [upd_ne hDa]; exact hb) (fun xs z => by cases z)
      exact (hp.tk (t1.trans t2)).app (.cons (t2 _ _ upd_same) .nil)
    · rw [upd_ne hDR.symm, upd_ne (ne_of_none hr ha)]
      exact hr
    · intro b o hb' h
      rw [upd_ne (ne_of_none h hD0), upd_ne (ne_of_none (ex b o hb' h) ha)]
      exact ex b o hb' h
  · rintro H2 ⟨bs, hb, hl, hp, hr, ex⟩
    rw [List.take_length] at hp
    refine ⟨hr, q _ D bs ?_ hD0 ?_ ?_⟩
    · intro b o h
      by_cases e : b = R
      · subst e
        rw [upd_same, ← h, hR]
      · rw [upd_ne e]
        exact ex b o e h
    · rw [upd_ne hDR]
      exact hb
    · exact hp.tk (Tk.upd hr (fun xs z => by cases z))
/-- a comprehension over a list of points: for those with c, a row -/
theorem lc_rowsP {K : Frag} {tl te : TE} {tt : TT} {σ : L2.St} {i : Nat} {H : Hp} {L : Addr} {as : List Addr} {qs : List Pt} {c : Pt → Bool} {g : Str → Int} {Q : VK} (hL : H L = some (.lst (as.map V.ref))) (hp : PtsAt H as qs) (few : qs.length ≤ 1000)
    (hl : ∀ Q', Q' (.ref L) H → tl σ H Q')
    (ht : ∀ a p G Q', p ∈ qs → PtAt G a p → Same H G → (∀ G', Same G G' → Q' (c p) G') → tt ((wipe σ [i]).set i (some (.ref a))) G Q')
    (he : ∀ a p G Q', p ∈ qs → PtAt G a p → Same H G → (∀ x, G x = none → Q' (.ref x) (upd G x (.tup [.str p.2, .int (g p.2)]))) → te ((wipe σ [i]).set i (some (.ref a))) G Q')
    (hw : ∀ x, wipe ((wipe σ [i]).set i (some x)) [i] = wipe σ [i])
    (q : ∀ H' D bs, Same H H' → H D = none → H' D = some (.lst (bs.map V.ref)) → RowsP H' bs ((qs.filter c).map fun p => (p.2, g p.2)) → Q (.ref D) H') : tLc (iList K tl) (gName i) tt te [i] σ H Q := by
  refine hl _ ⟨L, rfl, ⟨_, SqL.of hL⟩, fun D hD => ?_⟩
  refine lc_it (walk_list (xs := as.map V.ref)) (fun j H2 => ∃ bs, H2 D = some (.lst (bs.map V.ref)) ∧ bs.length ≤ j ∧ RowsP H2 bs (((qs.take j).filter c).map fun p => (p.2, g p.2)) ∧ Same H H2) ?_ (fun j H2 _ ⟨_, _, _, _, s⟩ => SqL.of (s _ _ hL)) ?_ ?_
  · exact ⟨[], upd_same, by simp, (by rw [List.take_zero]; exact .nil), Same.upd (Same.refl _) hD⟩
  · rintro j y H2 H3 hj ⟨bs, hb, hlen, hrw, s⟩ ⟨rfl, hy⟩
    obtain ⟨a, ea, rfl⟩ : ∃ a, as[j]? = some a ∧ y = .ref a := by
      rw [List.getElem?_map] at hy
      cases e : as[j]? with
      | none =>
        rw [e] at hy
        cases hy
      | some a =>
        rw [e] at hy
        cases hy
        exact ⟨a, rfl, rfl⟩
    obtain ⟨p, er, ha⟩ := hp.at ea
    refine ⟨hw _, ?_⟩
    have hjl := (List.getElem?_eq_some_iff.mp ea).1
    have hln := hp.len
    refine ht a p H3 _ (List.mem_of_getElem? er) (ha.same s) s fun H4 s4 => ?_
    have e1 : ((qs.take (j + 1)).filter c).map (fun p => (p.2, g p.2)) = ((qs.take j).filter c).map (fun p => (p.2, g p.2)) ++ (if c p = true then [(p.2, g p.2)] else []) := by
      rw [List.take_add_one, er, List.filter_append, List.map_append]
      congr 1
      cases hcp : c p <;> simp [hcp]
    have s34 := s.trans s4
    have hb4 := s4 _ _ hb
    have hrw4 := hrw.tk (.same s4)
    cases hcp : c p with
    | true =>
      rw [hcp, if_pos rfl] at e1
      rw [if_pos rfl]
      refine he a p H4 _ (List.mem_of_getElem? er) (ha.same s34) s34 fun x hx => ?_
      have hDx : D ≠ x := ne_of_none hb4 hx
      refine ⟨_, by rw [upd_ne hDx]; exact hb4, (by rw [List.length_map, sizeLine_eq]; omega), bs ++ [x], ?_, ?_, ?_, ?_⟩
      · rw [upd_same, List.map_append]
        rfl
      · rw [List.length_append]
        simp
        omega
      · rw [e1]
        have t1 : Tk H4 (upd H4 x (.tup [.str p.2, .int (g p.2)])) := Tk.same (Same.upd (Same.refl _) hx)
        have t2 : Tk (upd H4 x (.tup [.str p.2, .int (g p.2)])) (upd (upd H4 x (.tup [.str p.2, .int (g p.2)])) D (.lst (bs.map V.ref ++ [.ref x]))) := Tk.upd (by rw [upd_ne hDx]; exact hb4) (fun xs z => by cases z)
        exact (hrw4.tk (t1.trans t2)).app (.cons (t2 _ _ upd_same) .nil)
      · intro b o hbo
        rw [upd_ne (ne_of_none hbo hD), upd_ne (ne_of_none (s34 _ _ hbo) hx)]
        exact s34 _ _ hbo
    | false =>
      rw [hcp] at e1
      simp only [Bool.false_eq_true, if_false, List.append_nil] at e1
      rw [if_neg (by decide)]
      exact ⟨bs, hb4, by omega, by rw [e1]; exact hrw4, s34⟩
  · rintro H2 ⟨bs, hb, hlen, hrw, s⟩
    rw [List.length_map, List.take_of_length_le (by rw [hp.len]; omega)] at hrw
    exact q H2 D bs s hD hb hrw
section
variable {X : Cx} {k j : Nat} {f C : Addr} {sp : Sp} {E : XK} {e : Expr} {te : TE} {pos : Pos}
/-- {x!r} in an f-string, x an instance of C with its own __repr__ -/
def tFmtRO (C : Addr) (sp : Sp) (E : XK) (te : TE) : TE := fun σ H Q => te σ H fun x H1 => ∃ a dx fs, x = .ref a ∧ H1 a = some (.ins C dx fs) ∧ sp [x] H1 (fun z H' => ∃ y, z = .str y ∧ y.length ≤ sizeLine ∧ Q (.str y) H') E
theorem pe_fmtRO (hm : Meth X.K C "__repr__" f) (G : FnB X.prog X.w X.K X.mg X.base k f sp) (hr : Rm j X.A) (hx : Passes (L2.CX X.prog X.w) X E) (he : PE X e te) (hk : k ≤ j := by decide) : PE X (.FormattedValue e 114 none pos) (tFmtRO C sp E te) := by
  refine ⟨fun pins s σ H Q I h => ?_⟩
  refine wpAny_FormattedValue_repr (thn (he.run pins s σ H _ I h) fun v s1 hv => ?_)
  obtain ⟨x, H1, I1, r1, a, dx, fs, rfl, ha, q⟩ := hv
  cases (show v = Value.ref a from r1)
  obtain ⟨mA, O, _⟩ := ins_get I1.hok ha
  obtain ⟨od, J, _⟩ := O.look
  unfold pyReprObj
  refine wpAny_bind (wpAny_cRoomFor (hu0 hr) ?_)
  refine wpAny_bind (wpAny_bind (J.type.here ((PySem.W.looks_findIn I1.kIn hm.at_).here ?_)))
  refine wpAny_bind (m := callSpecialIfBound? (.ref a) (Str.ofString "__repr__")) (PySem.W.ifBound_K I1.kIn J hm.at_ hm.fn (wpAny_mono (wpAny_call (runB (us := [.ref a]) (vs := [.ref a]) G (hr.mono hk) I1.env0 hx I1 (.cons rfl .nil) q)) (fun w s' z => ?_) fun _ _ x => x))
  obtain ⟨z', H', I', rz, y, ey, hy, qz⟩ := z
  subst ey
  obtain ⟨t, e⟩ := (show ∃ t, w = Value.str y t from rz)
  subst e
  refine wpAny_bind (wpAny_isInstance (T := "str") (b := true) rfl isSubtype_str_str ?_)
  exact wpAny_pure (wpAny_formatField_str ⟨.str y, H', I'.tok _, ⟨_, rfl⟩, qz⟩ ⟨.str y, H', I'.tok _, ⟨_, rfl⟩, qz⟩ hy)
/-- == of two dicts: equal ones, or of other lengths -/
def rEqD2 : R2 := fun x y H Q => rEqDA x y H Q ∨ ∃ a b ks ls, x = .ref a ∧ y = .ref b ∧ H a = some (.dK ks) ∧ H b = some (.dK ls) ∧ ks.length ≠ ls.length ∧ Q (.bl false) H
theorem op_eqD2 (hu : X.A.units < cLine) : OpR X (compareOp .Eq) rEqD2 := by
  intro pins s σ H x y v u Q I rx ry h
  rcases h with h | ⟨a, b, ks, ls, rfl, rfl, ea, eb, hlen, q⟩
  · exact op_eq_dictA hu pins s σ H x y v u Q I rx ry h
  · obtain rfl : v = Value.ref a := rx
    obtain rfl : u = Value.ref b := ry
    obtain ⟨_, ya, va, ra, da⟩ := (show ObjOk X.prog X.w H s.heap a (.dK ks) from I.hok a _ ea)
    obtain ⟨_, yb, vb, rb, db⟩ := (show ObjOk X.prog X.w H s.heap b (.dK ls) from I.hok b _ eb)
    have hl : ¬ va.length = vb.length := by rw [← ra.length, ← rb.length]; exact hlen
    exact PySem.W.keq_eq (knd := mixKind X.prog X.w) (r := true) ya yb da db hu (fun e => absurd e hl) (fin_bl I q (by simp [hl]))
theorem op_leP (hu : X.A.units + 64 < cLine) : OpR X (compareOp .LtE) (rPt fun p q => !ptLt q p) := by
  intro pins s σ H x y v u Q I rx ry h
  obtain ⟨a, b, p, q, rfl, rfl, hp, hq, k⟩ := h
  obtain ⟨as, r1⟩ := Dp.reads I _ _ v hp.dp rx
  obtain ⟨bs, r2⟩ := Dp.reads I _ _ u hq.dp ry
  exact PySem.W.le_data r1 r2 (pt_alike p q) (by intro z; cases z) (by simp [ptD, PyData.depth, PyData.depthAll]; omega) ⟨.bl _, H, I, rfl, k⟩
end
theorem cut_take (xs : List V) (h : Nat) : cutV xs none (some (h : Int)) = xs.take h := by
  unfold cutV
  have e0 : HT.sIx xs.length 0 none = 0 := rfl
  rw [e0, List.drop_zero, Nat.sub_zero]
  have e1 : HT.sIx xs.length xs.length (some (h : Int)) = min h xs.length := by
    simp [HT.sIx]
    omega
  rw [e1]
  by_cases hh : h ≤ xs.length
  · rw [Nat.min_eq_left hh]
  · rw [Nat.min_eq_right (by omega), List.take_length, List.take_of_length_le (by omega)]
/-- a comprehension over the keys of a locked dict that takes none -/
theorem lc_keysNone {td te : TE} {tt : TT} {σ : L2.St} {i : Nat} {H : Hp} {R : Addr} {kvs : List (Key × V)} {Q : VK} (hR : H R = some (.dK kvs)) (hk : ∀ p ∈ kvs, ∃ z v, p = (Sum.inr z, v))
    (hd : ∀ G Q', Ex R H G → Q' (.ref R) G → td σ G Q')
    (ht : ∀ z v G Q', (Sum.inr z, v) ∈ kvs → Ex R H G → Rd G R (.dK kvs) → (∀ G', Same G G' → Q' false G') → tt ((wipe σ [i]).set i (some (.str z))) G Q')
    (hw : ∀ x, wipe ((wipe σ [i]).set i (some x)) [i] = wipe σ [i])
    (q : ∀ H' D, Same H H' → H D = none → H' D = some (.lst []) → Q (.ref D) H') : tLockE (tLc (iKeys td) (gName i) tt te [i]) σ H Q := by
  refine ⟨R, .dK kvs, hR, trivial, fun od => ?_⟩
  have exL : Ex R H (upd H R (.frz od (.dK kvs))) := Ex.refl.upd
  refine hd _ _ exL ⟨R, od, rfl, .inl ⟨kvs, upd_same, fun D hD => ?_⟩⟩
  have hDR : D ≠ R := fun z => by
    rw [z, upd_same] at hD
    cases hD
  have hD0 : H D = none := by
    rw [upd_ne hDR] at hD
    exact hD
  refine lc_it walk_keys (fun j H2 => H2 D = some (.lst []) ∧ H2 R = some (.frz od (.dK kvs)) ∧ Ex R H H2) ?_ (fun j H2 _ h => h.2.1) ?_ ?_
  · refine ⟨upd_same, (by rw [upd_ne hDR.symm, upd_same]), fun b o hb h => ?_⟩
    rw [upd_ne (ne_of_none h hD0), upd_ne hb]
    exact h
  · rintro j x H2 H3 hj ⟨hb, hr, ex⟩ ⟨rfl, k, v, hkv, rfl⟩
    obtain ⟨z, v', e⟩ := hk (k, v) (List.mem_of_getElem? hkv)
    cases e
    refine ⟨hw _, ht z v H3 _ (List.mem_of_getElem? hkv) ex (.inr ⟨od, hr⟩) fun G' sG => ?_⟩
    rw [if_neg (by decide)]
    exact ⟨sG _ _ hb, sG _ _ hr, fun b o hb' h => sG _ _ (ex b o hb' h)⟩
  · rintro H2 ⟨hb, hr, ex⟩
    refine ⟨hr, q _ D ?_ hD0 ?_⟩
    · intro b o h
      by_cases e : b = R
      · subst e
        rw [upd_same, ← h, hR]
      · rw [upd_ne e]
        exact ex b o e h
    · rw [upd_ne hDR]
      exact hb
theorem neI {i j : Int} {H : Hp} {Q : VK} (q : Q (.bl (!decide (i = j))) H) : rNe (.int i) (.int j) H Q := by
  refine ⟨rfl, ?_⟩
  have e : decide (V.int i = V.int j) = decide (i = j) := by simp
  rw [e]
  exact q
theorem neS_same {x y : Str} {H : Hp} {Q : VK} (e : x = y) (q : Q (.bl false) H) : rNe (.str x) (.str y) H Q := by
  subst e
  refine ⟨rfl, ?_⟩
  rw [decide_eq_true rfl]
  exact q
theorem canLayRP : ∀ {rs : List (Str × Int)}, (∀ r ∈ rs, PyData.strOk r.1 = true) → PyData.canLayAll0 (rs.map fun r => .tuple [.str r.1, .int r.2]) = true
  | [], _ => rfl
  | r :: rs, h => by
    refine Bool.and_eq_true_iff.mpr ⟨?_, canLayRP fun q hq => h q (List.mem_cons_of_mem _ hq)⟩
    show (PyData.strOk r.1 && (true && true)) = true
    rw [h r (List.mem_cons_self)]
    rfl
theorem depthRP : ∀ rs : List (Str × Int), PyData.depthAll (rs.map fun r => .tuple [.str r.1, .int r.2]) ≤ 1
  | [] => by decide
  | r :: rs => by
    show max (max 0 (max 0 0) + 1) (PyData.depthAll (rs.map fun r => .tuple [.str r.1, .int r.2])) ≤ 1
    have := depthRP rs
    omega
theorem shapedRP {rs : List (Str × Int)} (h : ∀ r ∈ rs, PyData.strOk r.1 = true) : SeqAt.shaped (.list (rs.map fun r => .tuple [.str r.1, .int r.2])) = true := by
  refine Bool.and_eq_true_iff.mpr ⟨canLayRP h, decide_eq_true ?_⟩
  show PyData.depthAll (rs.map fun r => .tuple [.str r.1, .int r.2]) + 1 ≤ 64
  have := depthRP rs
  omega
theorem neRP {K : Frag} {H : Hp} {a b : Addr} {as bs : List Addr} {rs : List (Str × Int)} {Q : VK} (ok : ∀ r ∈ rs, PyData.strOk r.1 = true) (h1 : H a = some (.lst (as.map V.ref))) (h2 : RowsP H as rs) (h3 : H b = some (.lst (bs.map V.ref))) (h4 : RowsP H bs rs) (q : Q (.bl false) H) : rNeD K (.ref a) (.ref b) H Q :=
  neD_same (.list (rs.map fun r => .tuple [.str r.1, .int r.2])) (.lst (SqL.of h1) h2.dps) (.lst (SqL.of h3) h4.dps) (shapedRP ok) q
end Ah

/-! a def that is called in any state of handling; repr of a list of one own instance -/
namespace Ah
open PySem PySem.Spec PySem.Calls PyProof.Rows L2 He
open L2H (RoomH)
open Builtin Builtin.List
/-- what a def promises, whatever is handled -/
structure FnN (P : Program) (w : World) (K : Frag) (mg : Str → Option Value) (base : Heap) (k : Nat) (f : Addr) (sp : Sp) : Prop where
  run : ∀ (A : Around) (outer : List Env) (s : Shared) (H : Hp) (us : List Value) (vs : List V) (Q : VK) (E : XK), RoomH k A → Env0 P w K mg base A outer s H → Vals vs us → sp vs H Q E →
    codeAny (model P w) A (.call (.ref f) ⟨us, []⟩) (CR (L2.CX P w) outer P w H s Q E) s
/-- the context of such a def's body -/
def cxN (CX : CXT) (P : Program) (w : World) (K : Frag) (mg : Str → Option Value) (base : Heap) (N : List Str) (qual : Str) (scope : Scope) (f : Addr) (cd : Value) (A : Around) (outer : List Env) (s : Shared) (H : Hp) (E : XK) : Cx :=
  { cxOf CX P w K mg base N qual scope f cd A outer s H E with calm := false }
theorem inv_startN {CX : CXT} {P : Program} {w : World} {K : Frag} {mg : Str → Option Value} {base : Heap} {N ps : List Str} {qual : Str} {scope : Scope} {f : Addr} {cd : Value} {A : Around} {outer : List Env} {s s1 : Shared} {H : Hp} {E : XK} {us : List Value} {vs : List V}
    (S : FnScope N ps scope) (e0 : Env0 P w K mg base A outer s H) (hl : vs.length = ps.length) (r : Vals vs us)
    (x : InCallC s s.heap.objs.size (bindL (envOfC qual scope s.heap.objs.size f cd).kindOf (ps.zip us) fun _ => none) (cellsFrom (s.heap.objs.size + 1) scope.names []) (bindC (envOfC qual scope s.heap.objs.size f cd).kindOf (ps.zip us) fun _ => none) s1) :
    L2.Inv (cxN CX P w K mg base N qual scope f cd A outer s H E) [] (L2.start N vs) H s1 := by
  have hpl : ps.length ≤ N.length := by have := congrArg List.length S.pre; rw [List.length_take] at this; omega
  obtain ⟨h1, tk, rfl, hk⟩ := x.done
  have noA : ∀ b : Addr, b ∉ (cxN CX P w K mg base N qual scope f cd A outer s H E).ex := fun b z => absurd (show b ∈ ([] : List Addr) from z) (by simp)
  refine ⟨⟨e0.mod, S.kind, rfl, rfl, Nat.le_refl _, fun y z c h1 h2 => ?_, fun y hy => ?_, fun y c _ h => ?_, (fun z => Bool.noConfusion (show false = true from z)), Around.frames_deeper e0.frames, .inr ⟨rfl, rfl⟩, fun b z => absurd z (noA b), e0.bs, e0.bsz, fun b _ _ => noA b, fun b z => absurd z (noA b), e0.funs, e0.frf⟩,
    rfl, e0.bare, Un.kept hk, ⟨_, x.toInCall.ns, fun i y v h1 h2 h3 => ?_⟩, fun y c h => ⟨_, x.cell y c h⟩, e0.hok.fresh (Nat.le_refl _), fun y c h => ?_, fun q hq => ?_, e0.hok.kept hk, ?_⟩
  · exact name_of_addr x.apart (PySem.mem_of_lookup h1) (PySem.mem_of_lookup h2)
  · have hy : scope.names.lookup y = some .cell ∨ scope.names.lookup y = some .free := hy
    rcases hy with hy | hy
    · exact cell_has hy
    · exact absurd rfl (S.nofree _ (PySem.mem_of_lookup hy))
  · exact Nat.le_of_lt (x.above y c (PySem.mem_of_lookup h))
  · have hi : i < vs.length := by
      unfold L2.start at h2
      by_cases hi : i < vs.length
      · exact hi
      · rw [List.getElem?_append_right (by simpa using hi)] at h2
        rw [List.getElem?_replicate] at h2
        split at h2 <;> cases h2
    have ha : vs[i]? = some v := by
      unfold L2.start at h2
      rw [List.getElem?_append_left (by simpa using hi), List.getElem?_map] at h2
      cases e : vs[i]? with
      | none => rw [e] at h2; cases h2
      | some a => rw [e] at h2; cases h2; rfl
    obtain ⟨u, hu, rv⟩ := r.get ha
    have hp : ps[i]? = some y := by
      rw [← S.pre, List.getElem?_take_of_lt (by omega)]; exact h1
    have ndP : ps.Nodup := by rw [← S.pre]; exact S.nd.sublist (List.take_sublist _ _)
    refine ⟨u, rv, ?_⟩
    rcases S.par y (List.mem_of_getElem? hp) with k | k
    · exact .inl ⟨k, bindL_get ndP hp hu k⟩
    · obtain ⟨c, e⟩ := cell_has (n := s.heap.objs.size + 1) k
      refine .inr ⟨.inl k, c, e, ?_⟩
      have q := x.cell y c e
      rw [bindC_get ndP hp hu (by show scope.names.lookup y ≠ _; rw [k]; decide)] at q
      exact q
  · exact e0.hok.fresh (Nat.le_of_lt (x.above y c (PySem.mem_of_lookup h)))
  · exact absurd (show q ∈ ([] : List (Addr × Obj)) ++ [] from hq) (by simp)
  · unfold L2.start
    show _ = N.length
    rw [List.length_append, List.length_map, List.length_replicate]
    omega
/-- THE RULE for such a def without defaults -/
theorem okN {P : Program} {w : World} {K : Frag} {mg : Str → Option Value} {base : Heap} {N ps : List Str} {k : Nat} {sp : Sp} {d : DefG} (S : Stands K d) (h0 : d.dfl = []) (sc : FnScope N ps d.scope) (len : ∀ vs H Q E, sp vs H Q E → vs.length = ps.length)
    (hb : ∀ (kV doc pm : Value) (an : Option Addr) (cdv ct : Value) (us : List Value), us.length = ps.length → bindArgs (PySem.W.fnOf d.name d.qual d.params d.body d.scope .none kV doc pm an cdv ct) ⟨us, []⟩ = pure (ps.zip us))
    (hbody : ∀ (A : Around) (outer : List Env) (s : Shared) (H : Hp) (vs : List V) (Q : VK) (E : XK), RoomH k (A.deeper (envOfC d.qual d.scope s.heap.objs.size (d.ad K) (CodeV K (d.ad K)))) → sp vs H Q E →
      ∃ t, PSs (cxN (L2.CX P w) P w K mg base N d.qual d.scope (d.ad K) (CodeV K (d.ad K)) A outer s H E) d.body t ∧ t { nx := fun _ H' => Q .non H', rt := Q } (L2.start N vs) H) : FnN P w K mg base (k + 1) (d.ad K) sp := by
  obtain ⟨fd, F⟩ := S
  have e : d.dvs K = [] := by unfold DefG.dvs; rw [h0]; rfl
  rw [e] at F
  refine ⟨fun A outer s H us vs Q E hr e0 r hsp => ?_⟩
  have hl := len _ _ _ _ hsp
  have KX : K.In s.heap := e0.mod.kin.keeps fun b o e => (e0.bs b o e).1
  have b := F.bindsN hb s us KX (by rw [List.append_nil, ← r.length]; exact hl)
  rw [List.append_nil] at b
  obtain ⟨oc, od, dV, kV, doc, pm, an, cdv, ct, osl, rfl, lk, hcd, _, _⟩ := F.ex
  have lim : s.heap.NoLimit := e0.mod.nolimit.keeps fun b o e => (e0.bs b o e).1
  have par : ∀ y ∈ ps.zip us, d.scope.names.lookup y.1 = some .local ∨ (d.scope.names.lookup y.1 = some .cell ∧ ((cellsFrom (s.heap.objs.size + 1) d.scope.names []).lookup y.1).isSome = true) := by
    rintro ⟨n, v⟩ hy
    cases sc.par n (List.of_mem_zip hy).1 with
    | inl q => exact Or.inl q
    | inr q => exact Or.inr ⟨q, PySem.W.cellsFrom_some _ _ _ (Or.inl q)⟩
  refine codeAny_call_function hr.depth (KX _ _ lk) rfl sc.co sc.gen rfl (PySem.W.codeRec_of KX hcd) (b _ _ _ _ ?_)
  refine wpAny_newFunctionEnv_cells sc.kind par fun env he s1 x => ?_
  subst he
  refine ⟨lim.keeps x.toInCall.keep, codeAny_func ?_⟩
  have ec : CodeV K (d.ad K) = cdv := by
    unfold CodeV
    rw [lk]
  subst ec
  obtain ⟨t, ht, hq⟩ := hbody A outer s H vs Q E (hr.deeper _) hsp
  have I := inv_startN (CX := L2.CX P w) (E := E) sc e0 hl r x
  refine wpAny_mono (ht.run [] s1 (L2.start N vs) H _ I hq) (fun fl s' hs => ?_) fun _ _ hs => hs
  cases fl with
  | ret u =>
    obtain ⟨v, _, H', J, rv, q⟩ := hs
    exact ⟨v, H', J.os, J.bare, J.base, J.hok, rv, q⟩
  | next =>
    obtain ⟨_, H', J, q⟩ := hs
    exact ⟨V.non, H', J.os, J.bare, J.base, J.hok, rfl, q⟩
  | brk => exact hs.elim fun _ z => z.elim fun _ z => z.2.elim
  | cont => exact hs.elim fun _ z => z.elim fun _ z => z.2.elim
theorem ifBoundBy_K {M : Model} {A : Around} {E : Value → Shared → Prop} {s : Shared} {K : Frag} {x C f : Addr} {ox : Obj} {od : Option Obj} {name : Str} {last : Value → List Value → Sem Value} {Q : Option Value → Shared → Prop} (X : K.In s.heap) (I : PySem.W.InstAt s.heap x ox C od) (hs : PySem.W.findIn K (.ref C) name = some (some (.ref f))) (hf : PySem.W.isFn K (.ref f) = true)
    (h : wpAny M A (last (.ref f) [.ref x]) (fun v => Q (some v)) E s) : wpAny M A (callSpecialIfBoundBy? last (.ref x) name) Q E s := by
  simp only [callSpecialIfBoundBy?, bindSpecialIfBound?]
  refine wpAny_holding (wpAny_bind (wpAny_bind (wpAny_bind (I.type.here ((PySem.W.looks_findIn X hs).here ?_)))))
  refine wpAny_bind (wpAny_askSetting (wpAny_ite ?_))
  have fin : wpAny M A (last (.ref f) [.ref x] >>= fun v => pure (some v)) Q E s := wpAny_bind (wpAny_mono h (fun v s' h' => wpAny_pure h') fun _ _ h' => h')
  split
  · exact wpAny_bind ((PySem.W.bind_fn X _ (beq_iff_eq.mp hf)).here (wpAny_pure (by exact fin)))
  · exact wpAny_tryCatch (wpAny_bind ((PySem.W.bind_fn X _ (beq_iff_eq.mp hf)).here (wpAny_pure (by exact fin))))
section
variable {X : Cx} {k : Nat} {f C : Addr} {sp : Sp}
/-- repr([x]), x an instance of C with its own __repr__ that tells z -/
def rRepr1 (C : Addr) (sp : Sp) : List V → Hp → VK → Prop := fun xs H Q => ∃ (a x dx : Addr) (fs : List (Str × V)) (z : Str), xs = [.ref a] ∧ H a = some (.lst [.ref x]) ∧ H x = some (.ins C dx fs) ∧ z.length ≤ 1000 ∧
  (∀ H1, Same H H1 → sp [.ref x] H1 (fun v H' => v = .str z ∧ H' = H1) L2.E0) ∧ ∀ H', Same H H' → Q (.str (listText [z])) H'
/-- the item, under the list's guard -/
theorem item_repr {A : Around} {pins : List (Addr × Obj)} {σ : L2.St} {H : Hp} {s : Shared} {x dx : Addr} {fs : List (Str × V)} {z : Str} {b : Nat} {Q : Str → Shared → Prop} {E : Value → Shared → Prop} (hm : Meth X.K C "__repr__" f) (G : FnN X.prog X.w X.K X.mg X.base k f sp) (hr : RoomH k A) (hu : A.units < cLine) (hbz : b ≤ sizeLine)
    (e0 : Env0 X.prog X.w X.K X.mg X.base A X.stack s H) (I : L2.Inv X pins σ H s) (hx : H x = some (.ins C dx fs)) (h : sp [.ref x] H (fun v H' => v = .str z ∧ H' = H) L2.E0)
    (q : ∀ s', L2.Inv X pins σ H s' → Q z s') : wpAny (model X.prog X.w) A (pyReprUnder b (.ref x)) Q E s := by
  obtain ⟨mA, O, _⟩ := ins_get I.hok hx
  obtain ⟨od, J, _⟩ := O.look
  refine wpAny_pyReprUnder_ref hbz ?_
  unfold pyReprObjUnder pyReprObjBy
  refine wpAny_bind (wpAny_cRoomFor hu ?_)
  refine wpAny_bind (wpAny_bind (J.type.here ((PySem.W.looks_findIn I.kIn hm.at_).here ?_)))
  refine wpAny_bind (ifBoundBy_K (name := Str.ofString "__repr__") I.kIn J hm.at_ hm.fn ?_)
  show wpAny (model X.prog X.w) A (call (.ref f) ([.ref x] ++ [])) _ _ _
  refine wpAny_call (codeAny_mono (G.run A X.stack s H [.ref x] [.ref x] _ L2.E0 hr e0 (.cons rfl .nil) h) fun r s' hq => ?_)
  match r, hq with
  | .error e, hq => exact False.elim ((passL (X := X.nox)) pins σ H s e s' (I.wish _) hq)
  | .ok (.ret u), hq =>
    obtain ⟨v, H', I', rv, ev, eH⟩ := I.after hq
    subst ev
    rw [eH] at I'
    obtain ⟨t, e⟩ := (show ∃ t, u = Value.str z t from rv)
    subst e
    refine wpAny_bind (wpAny_isInstance (T := "str") (b := true) rfl isSubtype_str_str ?_)
    exact wpAny_pure ⟨z, t, rfl, q s' I'⟩
theorem room_loop {A : Around} {k : Nat} (hr : RoomH (k + 2) A) (a b c d : Value) : RoomH k ((A.in1).under (.builtin "list.__repr__.loop" ⟨[a, b, c, d], []⟩)) := by
  have h1 := hr.dp
  have h2 := hr.un
  refine ⟨?_, ?_⟩
  · have e : ((A.in1).under (.builtin "list.__repr__.loop" ⟨[a, b, c, d], []⟩)).depth = A.depth + 1 := by
      have w0 : (Code.builtin "list.__repr__.loop" ⟨[a, b, c, d], []⟩).weight = 1 := by first | rfl | kernel_rfl
      show A.depth + (Code.builtin "list.__repr__.loop" ⟨[a, b, c, d], []⟩).weight = A.depth + 1
      rw [w0]
    rw [e]
    omega
  · rw [units_under_list_loop]
    show A.units + 1 + 1 + 16 * k + 200 < cLine
    omega
theorem env_loop {P : Program} {w : World} {K : Frag} {mg : Str → Option Value} {base : Heap} {A : Around} {outer : List Env} {s : Shared} {H : Hp} (e : Env0 P w K mg base A outer s H) (args : Args) : Env0 P w K mg base ((A.in1).under (.builtin "list.__repr__.loop" args)) outer s H :=
  ⟨by first | exact e.frames | (simpa [Around.under, Code.envs, Code.isFrame, pushEnvs] using e.frames), e.mod, e.bs, e.bsz, e.funs, e.frf, e.hok, e.bare⟩
theorem call_repr1 (hm : Meth X.K C "__repr__" f) (G : FnN X.prog X.w X.K X.mg X.base k f sp) (hg : X.A.guards = some []) (hr : RoomH (k + 2) X.A) : CallR X (.builtin "repr") (rRepr1 C sp) := by
  intro pins s σ H xs us Q I r h
  obtain ⟨a, x, dx, fs, z, rfl, ha, hx, hz, hsp, q⟩ := h
  obtain ⟨u, rfl, ru⟩ := r.one
  cases (show u = Value.ref a from ru)
  obtain ⟨its, n, rv, ho, _⟩ := I.lst ha
  obtain ⟨v0, rfl, rv0⟩ := rv.one
  cases (show v0 = Value.ref x from rv0)
  have hun := hr.un
  refine call_repr_slot (by omega) ⟨_, ho, rfl⟩ F.slot_list_repr.toG ?_
  refine wpAny_call (codeAny_call_builtin F.slot_list_repr.plain F.entry_list_repr (F.slot_list_repr.check _ _ _ _ _ _ _ _ ⟨_, ho, rfl⟩ (F.args_list_repr_1 _) ?_))
  refine wpAny_list_repr_head (l := []) hg (fun v rest kw hm => nomatch hm) ho rfl ?_
  refine wpAny_bind (m := newList []) (wpAny_newObj_type ?_)
  refine wpAny_pure ⟨F.quiet_list_repr_loop _, ?_⟩
  have hP : H s.heap.objs.size = none := I.hok.fresh (Nat.le_refl _)
  have I1 : L2.Inv X pins σ (upd H s.heap.objs.size (.lst [])) { s with heap := s.heap.push { cls := .type "list", data := .seq #[] }, toks := s.toks } := I.laid (t' := s.toks) (fun b u e => Heap.get?_push_of_some _ e) (Nat.le_refl _) ⟨by simp, [], 0, .nil, Heap.get?_push_size _ rfl⟩
  have s1 : Same H (upd H s.heap.objs.size (.lst [])) := Same.upd (Same.refl _) hP
  generalize hPa : s.heap.objs.size = Pa at *
  generalize hs1 : ({ s with heap := s.heap.push { cls := .type "list", data := .seq #[] }, toks := s.toks } : Shared) = st1 at I1
  have haP : a ≠ Pa := ne_of_none ha hP
  refine codeAny_builtin F.entry_list_repr_loop ?_
  show wpAny _ _ («list.__repr__.loop» ⟨[.ref a, .int 0 0, .ref Pa, .int 0 0], []⟩) _ _ _
  rw [repr_loop_tree]
  obtain ⟨its1, m1, rv1, ho1, _⟩ := I1.lst (p := a) (s1 _ _ ha)
  obtain ⟨v1, rfl, rv1'⟩ := rv1.one
  cases (show v1 = Value.ref x from rv1')
  subst hs1
  refine wpAny_bind (wpAny_listItems ho1 rfl ?_)
  simp only [show ((0 : Int).toNat) = 0 from rfl, show ([Value.ref x].toArray)[0]? = some (Value.ref x) from rfl]
  refine wpAny_bind (wpAny_holding (item_repr (b := 1) hm G (room_loop hr _ _ _ _) (by rw [units_under_list_loop]; show X.A.units + 1 + 1 < cLine; omega) (by decide) (env_loop I1.env0 _) I1 (s1 _ _ hx) (hsp _ s1) fun s2 I2 => ?_))
  refine wpAny_bind (wpAny_mkStr ?_ (by rw [sizeLine_eq]; omega))
  refine wpAny_bind ?_
  show wpAny _ _ (updateSeq Pa _) _ _ _
  obtain ⟨its2, m2, rv2, ho2, _⟩ := I2.lst (p := Pa) upd_same
  cases rv2
  refine wpAny_updateSeq ho2 rfl (wpAny_pure ⟨F.quiet_list_repr_loop _, ?_⟩) (by decide)
  have I3 := (I2.tok (s2.toks + 1)).lstUpd (p := Pa) (xs := []) (ys := [.str z]) (its := []) (its' := [Value.str z s2.toks]) (n' := m2 + 1) (f := Obj.mapSeq fun x => x.push (Value.str z s2.toks)) upd_same ho2 rfl (.cons ⟨_, rfl⟩ .nil) (by show 1 ≤ sizeLine; decide) (s2.toks + 1)
  have s3 : Same H (upd (upd H Pa (.lst [])) Pa (.lst [.str z])) := fun c o h => by
    rw [upd_ne (ne_of_none h hP), upd_ne (ne_of_none h hP)]
    exact h
  obtain ⟨its4, m4, rv4, ho4, _⟩ := I3.lst (p := a) (s3 _ _ ha)
  obtain ⟨v4, rfl, rv4'⟩ := rv4.one
  cases (show v4 = Value.ref x from rv4')
  obtain ⟨its5, m5, rv5, ho5, _⟩ := I3.lst (p := Pa) upd_same
  obtain ⟨v5, rfl, rv5'⟩ := rv5.one
  obtain ⟨t5, e5⟩ := (show ∃ t, v5 = Value.str z t from rv5')
  subst e5
  refine codeAny_builtin F.entry_list_repr_loop ?_
  show wpAny _ _ («list.__repr__.loop» ⟨[.ref a, .int 1 0, .ref Pa, .int _ 0], []⟩) _ _ _
  rw [repr_loop_tree]
  refine wpAny_bind (wpAny_listItems ho4 rfl ?_)
  simp only [show ((1 : Int).toNat) = 1 from rfl, show ([Value.ref x].toArray)[1]? = none from rfl]
  unfold reprEnd
  refine wpAny_bind (wpAny_listItems ho5 rfl ?_)
  show wpAny _ _ (forIn ((strValues [(z, t5)]).zipIdx 0) ("[" : Str) reprBody >>= _) _ _ _
  rw [repr_fold]
  refine wpAny_bind (wpAny_pure ?_)
  refine wpAny_bind (wpAny_mkStr (wpAny_pure ?_) ?_)
  · exact ⟨_, _, rfl, .str (listText [z]), _, I3.tok _, ⟨_, rfl⟩, q _ s3⟩
  · show (listText [z]).length ≤ sizeLine
    have e : listText [z] = ((Str.ofString "[" ++ Str.ofString "") ++ z) ++ Str.ofString "]" := rfl
    have e1 : (Str.ofString "[").length = 1 := by decide +kernel
    have e2 : (Str.ofString "").length = 0 := by decide +kernel
    have e3 : (Str.ofString "]").length = 1 := by decide +kernel
    rw [e]
    simp only [Str.length_append, e1, e2, e3, sizeLine_eq]
    omega
end
end Ah

/-! dict comprehensions with tuple keys -/
namespace L2
open PySem PySem.Spec PyProof.Rows
theorem d_dictSetT {X : Cx} {pins : List (Addr × Obj)} {σ : St} {H : Hp} {s : Shared} {E : Value → Shared → Prop} {D b : Addr} {kvs : List (List Key × V)} {k : List Key} {v : V} {u r : Value} {Q : Unit → Shared → Prop} (hu : X.A.units + 1 < cLine) (I : Inv X pins σ H s) (hD : H D = some (.dT kvs)) (hz : kvs.length < sizeLine)
    (hb : H b = some (.tup (k.map kV))) (ry : RelV (.ref b) u) (rv : RelV v r) (h : ∀ s', Inv X pins σ (upd H D (.dT (putK kvs k v))) s' → Q () s') : wpAny (model X.prog X.w) X.A (dictSet D u r) Q E s := by
  cases (show u = Value.ref b from ry)
  obtain ⟨z, hd, xs, rel, dd⟩ := dt_of I.hok hD
  have hzx : xs.length ≤ sizeLine := by rw [← Paired.length rel]; exact z
  have hl : (putK kvs k v).length ≤ sizeLine := by have := length_putK kvs k v; omega
  refine wpAny_dictSet_heap (hsz := hzx) (Nat.lt_of_succ_lt hu) (key_of I.hok hb) dd fun h' dd' hs => h _ ?_
  obtain ⟨q, es, ep, hq, h2, h3, h4, _, h5⟩ := dd'
  refine d_write I (by rw [hD]; exact True.intro) hs ⟨q, hq⟩ ⟨hl, hd, _, (rel.put k hb rv).keeps fun c ys ec => ?_, q, es, ep, hq, h2, h3, h4, h5⟩
  rw [upd_ne (ne_of ec hD (fun z => nomatch z))]
  exact ec
section
variable {X : Cx}
/-- {k: v for target in iter if ..}, keys tuples: D the new dict -/
def tDcT (wi : TI) (g : TG) (tt : TT) (tk tv : TE) (vs : List Nat) : TE := fun σ H Q => wi σ H fun J H1 => ∀ D, H1 D = none → ∃ W : Nat → Nat → Hp → Prop, (∃ m, W 0 m (upd H1 D (.dT []))) ∧ ∀ i m H, W i m H →
  (J.stop i H ∧ Q (.ref D) H) ∨ (J.go i H ∧ ∃ Nx : Hp → Prop, (∀ H', Nx H' → ∃ m', m' < m ∧ W (i + 1) m' H') ∧ ∀ x H', J.yld i H x H' → g x (wipe σ vs) H' fun σ2 H2 => wipe σ2 vs = wipe σ vs ∧ tt σ2 H2 fun b H3 =>
    if b = true then tk σ2 H3 fun y H4 => tv σ2 H4 fun z H5 => ∃ kvs k bq, y = .ref bq ∧ H5 bq = some (.tup (List.map kV k)) ∧ H5 D = some (.dT kvs) ∧ kvs.length < sizeLine ∧ Nx (upd H5 D (.dT (putK kvs k z))) else Nx H3)
theorem dcT_core {pins : List (Addr × Obj)} {s : Shared} {σ : St} {H : Hp} {Q : VK} {kx vx tg iter : Expr} {ifs : List Expr} {scope : Scope} {own : List (Str × Nat)} {pos pos' : Pos} {wi : TI} {g : TG} {tt : TT} {tk tv : TE} {use : Option (Value → Sem Unit)} {Qf : Value → Shared → Prop}
    (hu : X.A.units + 1 < cLine) (hc : X.calm = true) (hN : X.N.Nodup) (I : Inv X pins σ H s) (hi : PI X tg iter wi) (ok : BlkOk X.N X.env.scope scope own)
    (hg : ∀ (s : Shared) (H : Hp) (C : Addr) (cl : List (Str × Addr)) (fp : List Addr), PG (X.blk s H scope (compEnvC scope cl C X.env) fp) tg g) (ht : ∀ (s : Shared) (H : Hp) (C : Addr) (cl : List (Str × Addr)) (fp : List Addr), PTs (X.blk s H scope (compEnvC scope cl C X.env) fp) ifs tt)
    (hk : ∀ (s : Shared) (H : Hp) (C : Addr) (cl : List (Str × Addr)) (fp : List Addr), PE (X.blk s H scope (compEnvC scope cl C X.env) fp) kx tk)
    (he : ∀ (s : Shared) (H : Hp) (C : Addr) (cl : List (Str × Addr)) (fp : List Addr), PE (X.blk s H scope (compEnvC scope cl C X.env) fp) vx tv) (hs : ∀ x, foldedSetIterable iter X.env x = pure x)
    (h : tDcT wi g tt tk tv (own.map (·.2)) σ H Q)
    (hRR : ∀ D C s' m H', Inv X pins σ H' s' → Q (.ref D) H' → s'.heap.Ns C m → FpOk X pins H' C → compPost (model X.prog X.w) X.A X.xe use Qf (.ref D) C (.ok .next) s') :
    wpAny (model X.prog X.w) X.A (comprehension (.DictComp kx vx [⟨tg, iter, ifs, 0⟩] scope pos) scope X.env pos' newDict false (eval iter X.env) use) Qf X.xe s := by
  have hfree : ∀ y ∈ scope.names, y.2 = .free → ∃ c, X.env.cells.lookup y.1 = some c := fun y hy e => by
    rcases ok.free y hy e with k | k
    · exact I.ok.has _ (.inl k)
    · exact I.ok.has _ (.inr k)
  refine wpAny_comprehension_free (use := use) rfl hs (closure_ok hfree) ok.kind (fun y hy e => by rw [ok.uniq y hy, e])
    (thn (hi.run pins s σ H _ I h) fun xv s1 hx => thn hx fun itv s2 h2 => ?_)
  obtain ⟨it, fp, tn, J, H2, e, I2, T, st2, f2, q⟩ := h2
  subst e
  refine wpAny_newObj_type (newEnv_comp ?_)
  generalize hD : s2.heap.objs.size = D
  have hDn : H2 D = none := I2.hok.fresh (Nat.le_of_eq hD)
  obtain ⟨W, ⟨m0, w0⟩, turn⟩ := q D hDn
  -- the new list
  generalize hs3 : ({ s2 with heap := s2.heap.push { cls := .type "dict", data := .dict #[] } } : Shared) = s3
  have I3 : Inv X pins σ (upd H2 D (.dT [])) s3 := by
    rw [← hs3]
    refine I2.laid (t' := s2.toks) (fun b o e => Heap.get?_push_of_some _ e) (Nat.le_of_eq hD) ?_
    rw [← hD]
    exact dt_empty s2.heap I2.big
  have h3 : s3.heap = s2.heap.push { cls := .type "dict", data := .dict #[] } := by rw [← hs3]
  have sz : ∀ b ∈ fp, b < s2.heap.objs.size := fun b hb => by
    obtain ⟨o, e, _⟩ := T.obj _ _ st2 b hb
    exact Heap.lt_size e
  have f3 : ∀ b ∈ fp, FpOk X pins (upd H2 D (.dT [])) b ∧ b < s3.heap.objs.size := fun b hb => by
    have hlt := sz b hb
    refine ⟨⟨?_, (f2 b hb).2⟩, by rw [h3, Heap.size_push]; exact Nat.lt_succ_of_lt hlt⟩
    rw [upd_ne (by rw [← hD]; exact Nat.ne_of_lt hlt)]
    exact (f2 b hb).1
  have st3 : tn 0 s3.heap := T.keep _ _ _ st2 fun b _ o e => by rw [h3]; exact Heap.get?_push_of_some _ e
  have I4 := block_start I3 ok hN f3
  have pg := hg s3 (upd H2 D (.dT [])) s3.heap.objs.size (cellsFrom (s3.heap.objs.size + 1) scope.names (cloFrom X.env.cells scope.names [])) fp
  have pt := ht s3 (upd H2 D (.dT [])) s3.heap.objs.size (cellsFrom (s3.heap.objs.size + 1) scope.names (cloFrom X.env.cells scope.names [])) fp
  have pk := hk s3 (upd H2 D (.dT [])) s3.heap.objs.size (cellsFrom (s3.heap.objs.size + 1) scope.names (cloFrom X.env.cells scope.names [])) fp
  have pe := he s3 (upd H2 D (.dT [])) s3.heap.objs.size (cellsFrom (s3.heap.objs.size + 1) scope.names (cloFrom X.env.cells scope.names [])) fp
  show codeAny _ _ (.compStart (.DictComp kx vx [⟨tg, iter, ifs, 0⟩] scope pos) 0 (.ref it) (.ref D) (compEnvC scope (cellsFrom (s3.heap.objs.size + 1) scope.names (cloFrom X.env.cells scope.names [])) s3.heap.objs.size X.env)) (compPost (model X.prog X.w) X.A X.xe use Qf (.ref D) s3.heap.objs.size) { s3 with heap := pushCells (s3.heap.push { cls := .type "dict", data := .dict #[] }) scope.names }
  have nfp : ∀ b ∈ fp, (upd H2 D (.dT [])) b = none := fun b hb => (f3 b hb).1.1
  generalize hce : compEnvC scope (cellsFrom (s3.heap.objs.size + 1) scope.names (cloFrom X.env.cells scope.names [])) s3.heap.objs.size X.env = ce at I4 pg pt pk pe ⊢
  have cL : ce.locals = s3.heap.objs.size := by subst hce; rfl
  generalize hH3 : upd H2 D (.dT []) = H3 at I3 I4 pg pt pk pe w0 nfp f3
  generalize hs4 : ({ s3 with heap := pushCells (s3.heap.push { cls := .type "dict", data := .dict #[] }) scope.names } : Shared) = s4 at I4 ⊢
  have st4 : tn 0 s4.heap := T.keep _ _ _ st3 fun b _ o e => by rw [← hs4]; exact pushCells_keeps _ _ _ _ (Heap.get?_push_of_some _ e)
  have stat : ∀ {σ' : St} {H' : Hp} {s' : Shared}, Inv (X.blk s3 H3 scope ce fp) [] σ' H' s' → (∀ b ∈ fp, H' b = none) → ∀ b ∈ fp, FpOk (X.blk s3 H3 scope ce fp) [] H' b := fun {σ' H' s'} I' hn b hb =>
    ⟨hn b hb, (I'.ok.exf b hb).1, I'.ok.exfs b hb, .inl hb, fun x c e => (I'.ok.exf b hb).2 x c e, fun p hp => absurd (show p ∈ ([] : List (Addr × Obj)) ++ [] from hp) (by simp)⟩
  have loop : codeAny (model X.prog X.w) X.A (.compLoop (.DictComp kx vx [⟨tg, iter, ifs, 0⟩] scope pos) 0 (.ref it) (.ref D) ce) (compPost (model X.prog X.w) X.A X.xe use Qf (.ref D) s3.heap.objs.size) s4 := by
    refine compLoop_anyD (fun n s' => ∃ i H', Inv (X.blk s3 H3 scope ce fp) [] (wipe σ (own.map (·.2))) H' s' ∧ tn i s'.heap ∧ (∀ b ∈ fp, H' b = none) ∧ W i n H') ?_ m0 ⟨0, H3, I4, st4, nfp, w0⟩
    rintro n s5 ⟨i, H5, I5, st5, n5, w5⟩
    rcases turn i n H5 w5 with ⟨stop, qq⟩ | ⟨go, Nx, hNx, step⟩
    · have td := T.done (X.blk s3 H3 scope ce fp) rfl rfl rfl hc i [] s5 _ H5 (fun _ _ => False) I5 (stat I5 n5) st5 stop
      refine thnF td fun r s6 ⟨hr, I6⟩ => ?_
      subst hr
      -- back in the def's context
      have I7 : Inv X pins σ H5 s6 := I3.call' (ch := fp) I6.os I6.base I6.hok I6.bare fun b hb => ⟨(f3 b hb).1.2.2.2.1, (f3 b hb).1.2.1, (f3 b hb).1.2.2.2.2.1, (f3 b hb).1.2.2.2.2.2⟩
      have nC : H5 s3.heap.objs.size = none := by
        have z : H5 ce.locals = none := I6.free
        rw [cL] at z
        exact z
      obtain ⟨m, hn, _⟩ := I6.loc
      have hn : s6.heap.Ns ce.locals m := hn
      rw [cL] at hn
      exact hRR D s3.heap.objs.size s6 m H5 I7 qq hn (I3.fpOk (Nat.le_refl _) nC)
    · have ti := T.item (X.blk s3 H3 scope ce fp) rfl rfl rfl hc i [] s5 _ H5 (fun _ _ => False) I5 (stat I5 n5) st5 go
      refine thnF ti fun r s6 ⟨u, hr, h6⟩ => ?_
      subst hr
      refine thnF h6 fun _ s7 ⟨x, H7, I7, r7, y7, st7, n7⟩ => ?_
      have I7' := I7.pinned (stat I7 n7) (T.obj _ _ st7)
      refine thnF (pg.run _ s7 _ H7 x u _ I7' r7 (step x H7 y7)) fun _ s8 ⟨σ8, H8, I8, hw8, q8⟩ => ?_
      refine thnF (pt.run _ s8 σ8 H8 _ I8 q8) fun b s9 ⟨H9, I9, q9⟩ => ?_
      -- the turn's end
      have fin : ∀ {s' : Shared} {H' : Hp}, Inv (X.blk s3 H3 scope ce fp) ([] ++ pinsAt fp s7.heap) σ8 H' s' → Nx H' → ∃ m, m < n ∧ ∃ i H', Inv (X.blk s3 H3 scope ce fp) [] (wipe σ (own.map (·.2))) H' s' ∧ tn i s'.heap ∧ (∀ b ∈ fp, H' b = none) ∧ W i m H' := fun {s' H'} I' nx => by
        obtain ⟨m', hm, w'⟩ := hNx H' nx
        have pin' : ∀ b ∈ fp, ∀ o, s7.heap.get? b = some o → s'.heap.get? b = some o ∧ H' b = none := fun b hb o e =>
          let z := I'.pin (b, o) (List.mem_append_right _ (List.mem_append_right _ (mem_pinsAt hb e)))
          ⟨z.1, z.2.1⟩
        have hl : (wipe σ (own.map (·.2))).length = σ8.length := by rw [← hw8, wipe_length]
        refine ⟨m', hm, i + 1, H', (I'.unpinned (pins := [])).weak hl (fun j v e => ?_), T.keep _ _ _ st7 fun b hb o e => (pin' b hb o e).1, fun b hb => ?_, w'⟩
        · rw [← hw8] at e
          exact (wipe_some e).1
        · obtain ⟨o, e, _⟩ := T.obj _ _ st7 b hb
          exact (pin' b hb o e).2
      cases b with
      | false =>
        simp only [Bool.false_eq_true, if_false] at q9 ⊢
        exact fin I9 q9
      | true =>
        simp only [if_true] at q9 ⊢
        refine thnF (pk.run _ s9 σ8 H9 _ I9 q9) fun z s10 ⟨yk, H10, I10, r10, q10⟩ => ?_
        refine thnF (pe.run _ s10 σ8 H10 _ I10 q10) fun z2 s11 ⟨yv, H11, I11, r11, kvs, k, bq, ek, hb11, hD11, hz11, nx⟩ => ?_
        subst ek
        exact d_dictSetT (X := X.blk s3 H3 scope ce fp) hu I11 hD11 hz11 hb11 r10 r11 fun s12 I12 => fin I12 nx
  exact codeAny_compStart_dict loop (T.self X.A 0 _ _ _ st4 loop)
/-- as a value -/
theorem pe_dcT {kx vx tg iter : Expr} {ifs : List Expr} {scope : Scope} {own : List (Str × Nat)} {pos : Pos} {wi : TI} {g : TG} {tt : TT} {tk tv : TE} (hu : X.A.units + 1 < cLine) (hc : X.calm = true) (hN : X.N.Nodup) (hi : PI X tg iter wi) (ok : BlkOk X.N X.env.scope scope own)
    (hg : ∀ (s : Shared) (H : Hp) (C : Addr) (cl : List (Str × Addr)) (fp : List Addr), PG (X.blk s H scope (compEnvC scope cl C X.env) fp) tg g) (ht : ∀ (s : Shared) (H : Hp) (C : Addr) (cl : List (Str × Addr)) (fp : List Addr), PTs (X.blk s H scope (compEnvC scope cl C X.env) fp) ifs tt)
    (hk : ∀ (s : Shared) (H : Hp) (C : Addr) (cl : List (Str × Addr)) (fp : List Addr), PE (X.blk s H scope (compEnvC scope cl C X.env) fp) kx tk)
    (he : ∀ (s : Shared) (H : Hp) (C : Addr) (cl : List (Str × Addr)) (fp : List Addr), PE (X.blk s H scope (compEnvC scope cl C X.env) fp) vx tv) (hs : ∀ x, foldedSetIterable iter X.env x = pure x := by intro _; rfl) :
    PE X (.DictComp kx vx [⟨tg, iter, ifs, 0⟩] scope pos) (tDcT wi g tt tk tv (own.map (·.2))) := by
  refine ⟨fun pins s σ H Q I h => ?_⟩
  rw [arm_eval_DictComp]
  refine dcT_core hu hc hN I hi ok hg ht hk he hs h fun D C s' m H' I' q hn f => ⟨m, hn, fun h'' sb => ?_⟩
  obtain ⟨f0, f1, f2, f3, f4, f5⟩ := f
  exact ⟨.ref D, H', I'.turned (t' := s'.toks) (fun b o hb e => (sb.2 b hb).trans e) f0 f1 f3 f4 f5, rfl, q⟩

end
end L2

/-! sorted(d), d a dict whose keys are points; own &; {x!r} of data -/
namespace Ah
open PySem PySem.Spec PySem.Calls PyProof.Rows L2 He SrtO
def ptKey (p : Pt) : List Key := [Sum.inl p.1, Sum.inr p.2]
theorem pts_isKeys {H : Hp} {kvs : List (List Key × V)} {bs : List Addr} (h : IsKeys H kvs bs) : ∀ {ps : List Pt}, kvs.map (·.1) = ps.map ptKey → PtsAt H bs ps := by
  unfold IsKeys at h
  induction h with
  | nil =>
    intro ps e
    cases ps with
    | nil => exact .nil
    | cons p ps => cases e
  | @cons kv b kvs bs hb _ ih =>
    intro ps e
    cases ps with
    | nil => cases e
    | cons p ps =>
      rw [List.map_cons, List.map_cons] at e
      have e1 := List.cons.inj e
      refine .cons ?_ (ih e1.2)
      rw [e1.1] at hb
      exact hb
def rSortDT : List V → Hp → VK → Prop := fun vs H Q => ∃ (d : Addr) (kvs : List (List Key × V)) (ps : List Pt), vs = [.ref d] ∧ Rd H d (.dT kvs) ∧ kvs.map (·.1) = ps.map ptKey ∧
  ∀ r bs qs, H r = none → PtsAt H bs qs → qs.Perm ps → PtOrd qs → Q (.ref r) (upd H r (.lst (bs.map V.ref)))
section
variable {X : Cx}
theorem cr_sortDT (hc : X.calm = true) : CallR X (.builtin "sorted") rSortDT := by
  intro pins s σ H xs us Q I r h
  obtain ⟨d, kvs, ps, rfl, hd, hks, q⟩ := h
  obtain ⟨u, rfl, rx⟩ := r.one
  cases (show u = Value.ref d from rx)
  obtain ⟨z, hs, ks, pr, o, es, ep, ho, hx, hdt, he, hn⟩ := (show ObjOk X.prog X.w H s.heap d (.dT kvs) from hd.ok I.hok)
  have l1 : es.size = ks.length := size_of_entries he
  have l2 : kvs.length = ks.length := Paired.length pr
  refine Calls.call_function_entry PyProof.Rows.kind_sorted PyProof.Rows.plain_sorted PyProof.Rows.entry_sorted (PyProof.Rows.args_sorted1 _) ?_
  unfold Builtin.«sorted»
  refine wpAny_bind (m := checkCount "sorted" 1 1 _) (wpAny_pure ?_)
  refine wpAny_bind (PySem.W.kdu_collect (A := X.A.in1) (kdl_raw hs hx hdt) (I.ok.hd hc) ho (by omega) fun h' tk acc hk hacc => ?_)
  have ea : acc.toList = (ks.map fun x => x.2.1).map Value.ref := by
    have hl : acc.toList.length = ks.length := by rw [Array.length_toList, hacc.1]; exact l1
    rw [List.map_map]
    apply List.ext_getElem?
    intro j
    rw [List.getElem?_map]
    cases hj : acc.toList[j]? with
    | none =>
      have h1 := List.getElem?_eq_none_iff.mp hj
      rw [List.getElem?_eq_none (by omega)]
      all_goals rfl
    | some v =>
      obtain ⟨en, hen, hv⟩ := hacc.2 j v (by rw [← Array.getElem?_toList]; exact hj)
      have qe := entry_at he j
      rw [hen] at qe
      cases hb : ks[j]? with
      | none =>
        rw [hb] at qe
        exact nomatch (show some en = none from qe)
      | some b =>
        rw [hb] at qe
        have e2 : en = entryOfKey (tupleKind (mixKind X.prog X.w)) b := Option.some.inj qe
        rw [hv, e2]
        all_goals rfl
  have hp : PtsAt H (ks.map fun x => x.2.1) ps := pts_isKeys (isKeys_of pr) hks
  generalize hAs : (ks.map fun x => x.2.1) = as at ea hp
  have lA : as.length = ks.length := by rw [← hAs, List.length_map]
  have I1 : L2.Inv X pins σ H { s with heap := h', toks := tk } := I.kept hk
  rw [ea]
  have hzz : (as.map Value.ref).length ≤ sizeLine := by rw [List.length_map]; omega
  refine wpAny_bind (wpAny_newList ?_ hzz)
  have hoL : (h'.push (seqObj "list" (as.map Value.ref).toArray 0)).get? h'.objs.size = some (seqObj "list" (as.map Value.ref).toArray 0) := Heap.get?_push_size _ rfl
  show wpAny _ _ _ _ _ { s with heap := h'.push (seqObj "list" (as.map Value.ref).toArray 0), toks := tk }
  let k : Value → Pt := fun v => match v with | .ref a => ptOf H a | _ => (0, Str.empty)
  have hkk : ∀ v ∈ as.map Value.ref, IsPtO (h'.push (seqObj "list" (as.map Value.ref).toArray 0)) v (k v) := fun v hv => by
    obtain ⟨a, ha, rfl⟩ := List.mem_map.mp hv
    obtain ⟨_, its2, r2, o, ho, hc, n, hd⟩ := I1.hok _ _ (hp.of_mem a ha)
    obtain ⟨u1, u2, rfl, ri, rj⟩ := vals2 r2
    obtain ⟨t1, rfl⟩ := ri
    obtain ⟨t2, rfl⟩ := rj
    exact ⟨a, o, t1, t2, n, rfl, Heap.get?_push_of_some _ ho, hc, hd⟩
  refine wpAny_bind (wpAny_holding (wpAny_call_entry PyProof.Rows.slot_list_sort ⟨_, hoL, rfl⟩ PyProof.Rows.entry_list_sort
    (list_sort_ord (s := { s with heap := h'.push (seqObj "list" (as.map Value.ref).toArray 0), toks := tk }) (swo_pt k) hoL hzz (fun h2 => pts_sortable (by omega) hkk (fun o' e => ?_)) fun out h1 h2 => ⟨_, rfl, ?_⟩) (PyProof.Rows.args_list_sort _)))
  · have e' : some o' = some (seqObj "list" (as.map Value.ref).toArray 0) := e.symm.trans hoL
    cases e'
    intro c
    exact absurd (Value.type.inj c) (by decide)
  obtain ⟨bs, rfl⟩ : ∃ bs : List Addr, out = bs.map Value.ref := by
    have hm : ∀ u ∈ out, ∃ a, u = Value.ref a := fun u hu => by
      obtain ⟨a, _, e⟩ := List.mem_map.mp (h2.perm.mem_iff.mp hu)
      exact ⟨a, e.symm⟩
    clear h1 h2
    induction out with
    | nil => exact ⟨[], rfl⟩
    | cons u out ih =>
      obtain ⟨a, rfl⟩ := hm u (List.mem_cons_self)
      obtain ⟨bs, rfl⟩ := ih fun v hv => hm v (List.mem_cons_of_mem _ hv)
      exact ⟨a :: bs, rfl⟩
  have pm : bs.Perm as := by
    have z := h2.perm.map (fun v : Value => match v with | .ref a => a | _ => 0)
    rw [List.map_map, List.map_map] at z
    simpa [Function.comp_def] using z
  obtain ⟨e', he'⟩ := PyProof.Rows.sortedHeap_at (vs := as.map Value.ref) (out := (bs.map Value.ref).toArray) hoL
  refine wpAny_pure ⟨_, rfl, .ref h'.objs.size, upd H h'.objs.size (.lst (bs.map V.ref)), I1.laid (t' := tk) (fun b u e => ?_) (Nat.le_refl _) (show ObjOk X.prog X.w _ _ _ (.lst (bs.map V.ref)) from ⟨?_, bs.map Value.ref, e', Ah.vals_refs bs, he'⟩), rfl, q _ bs (bs.map (ptOf H)) (I1.hok.fresh (Nat.le_refl _)) (ptsAt_map fun a ha => hp.of_mem a (pm.mem_iff.mp ha)) ?_ ?_⟩
  · have hb : b < h'.objs.size := Heap.lt_size e
    rw [PyProof.Rows.sortedHeap_old (Nat.ne_of_lt hb) (by rw [size_push']; exact Nat.lt_succ_of_lt hb)]
    exact Heap.get?_push_of_some _ e
  · rw [List.length_map, pm.length_eq]
    omega
  · rw [← hp.map]
    exact pm.map _
  · have z : List.Pairwise _ (bs.map Value.ref) := h1
    rw [List.pairwise_map] at z
    unfold PtOrd
    rw [List.pairwise_map]
    exact z
end
end Ah

/-! own &, {x!r} of data, tuple in list, == of lists of own instances, a method with a starred parameter and no arguments -/
namespace Ah
open PySem PySem.Spec PySem.W PySem.Calls PyProof.Rows L2 He
section
variable {X : Cx} {k j : Nat} {f C : Addr} {sp : Sp} {E : XK}
/-- x & y by the own __and__ of C, both of the class C -/
def rBinO (C : Addr) (sp : Sp) (E : XK) : R2 := fun x y H Q => ∃ a dx fs b dy gs, x = .ref a ∧ y = .ref b ∧ H a = some (.ins C dx fs) ∧ H b = some (.ins C dy gs) ∧ sp [x, y] H Q E
theorem op_andO (hm : Meth X.K C "__and__" f) (hc : selfFirst X.K C = true) (F : FnB X.prog X.w X.K X.mg X.base k f sp) (hr : Rm j X.A) (hx : Passes (L2.CX X.prog X.w) X E) (hk : k ≤ j := by decide) : OpR X (binaryOp .BitAnd) (rBinO C sp E) := by
  intro pins s σ H x y v u Q I rx ry h
  obtain ⟨a, dx, fs, b, dy, gs, rfl, rfl, ha, hb, q⟩ := h
  cases (show v = Value.ref a from rx)
  cases (show u = Value.ref b from ry)
  obtain ⟨mA, O, _⟩ := ins_get I.hok ha
  obtain ⟨od, J, _⟩ := O.look
  obtain ⟨mB, O2, _⟩ := ins_get I.hok hb
  obtain ⟨od2, J2, _⟩ := O2.look
  obtain ⟨m, hF⟩ := I.fr
  refine binop_K (op := .BitAnd) hF I.ok.mod.kin J (J2.type) hc hm.at_ hm.fn ?_
  refine wpAny_mono (wpAny_call (runB (us := [.ref a, .ref b]) (vs := [.ref a, .ref b]) F (hr.mono hk) I.env0 hx I (.cons rfl (.cons rfl .nil)) q)) (fun w s' z => ?_) fun _ _ x => x
  obtain ⟨z', H', I', rz, qz⟩ := z
  have z2 : EP X pins σ Q w s' := ⟨z', H', I', rz, qz⟩
  cases w with
  | notImplemented => cases z' <;> first | exact nomatch rz | (obtain ⟨t, e⟩ := rz; exact nomatch e)
  | _ => exact z2
/-- {x!r} of data behind an address -/
def tFmtRD (K : Frag) (te : TE) : TE := fun σ H Q => te σ H fun x H1 => ∃ (a : Addr) (d : PyData), x = .ref a ∧ Dp K H1 x d ∧ d.showable = true ∧ d.hasDict = false ∧ d.depth ≤ 64 ∧ d.shown.length ≤ sizeLine ∧ Q (.str d.shown) H1
theorem pe_fmtRD {e : Expr} {te : TE} {pos : Pos} (hg : X.A.guards = some []) (hu : X.A.units + 64 < cLine) (he : PE X e te) : PE X (.FormattedValue e 114 none pos) (tFmtRD X.K te) := by
  refine ⟨fun pins s σ H Q I h => ?_⟩
  refine wpAny_FormattedValue_repr (thn (he.run pins s σ H _ I h) fun v s1 hv => ?_)
  obtain ⟨x, H1, I1, r1, a, d, rfl, hd, h1, h2, h3, h4, q⟩ := hv
  cases (show v = Value.ref a from r1)
  obtain ⟨as, rd⟩ := Dp.reads I1 d _ _ hd r1
  refine pyReprObj_of_reads rd h1 (fun z => by rw [h2] at z; cases z) hg (by omega) (fun _ _ z => z) (fun h' t tk hk => ?_) h4
  have I2 := I1.kept (t' := tk) hk
  exact wpAny_formatField_str ⟨.str d.shown, H1, I2, ⟨_, rfl⟩, q⟩ ⟨.str d.shown, H1, I2.tok _, ⟨_, rfl⟩, q⟩ h4
/-- x not in l, l a list of points -/
def rNotInP (K : Frag) : R2 := fun x y H Q => ∃ (a l : Addr) (p : Pt) (as : List Addr) (ps : List Pt), x = .ref a ∧ y = .ref l ∧ PtAt H a p ∧ SqL K H l (as.map V.ref) ∧ PtsAt H as ps ∧ Q (.bl (!decide (p ∈ ps))) H
theorem PtsAt.dps {K : Frag} {H : Hp} {as : List Addr} {ps : List Pt} (h : PtsAt H as ps) : DpAll K H (as.map V.ref) (ps.map ptD) := by
  induction h with
  | nil => exact .nil
  | cons h _ ih => exact .cons h.dp ih
theorem plain_ptD (p : Pt) : (ptD p).plain = true := rfl
theorem plainAll_pts : ∀ ps : List Pt, PyData.plainAll (ps.map ptD) = true
  | [] => rfl
  | p :: ps => by
    show ((ptD p).plain && PyData.plainAll (ps.map ptD)) = true
    rw [plain_ptD, plainAll_pts ps]
    rfl
theorem eqv_ptD (p q : Pt) : PyData.eqv (ptD p) (ptD q) = decide (p = q) := by
  obtain ⟨n, z⟩ := p
  obtain ⟨m, y⟩ := q
  show ((decide (n = m)) && ((decide (z = y)) && true)) = _
  by_cases h1 : n = m <;> by_cases h2 : z = y <;> simp [h1, h2]
theorem op_notInP (hu : X.A.units + 64 < cLine) : OpR X (compareOp .NotIn) (rNotInP X.K) := by
  intro pins s σ H x y v u Q I rx ry h
  obtain ⟨a, l, p, as, ps, rfl, rfl, hp, hl, hps, q⟩ := h
  obtain ⟨bs, r1⟩ := Dp.reads I _ _ v hp.dp rx
  have hd : Dp X.K H (.ref l) (.list (ps.map ptD)) := .lst hl hps.dps
  obtain ⟨cs, r2⟩ := Dp.reads I _ _ u hd ry
  refine SeqAt.notIn_list_data r2 r1 (plainAll_pts ps) (plain_ptD p) ?_ ?_
  · have : (ptD p).depth = 1 := rfl
    rw [this]
    have : min (PyData.depthAll (ps.map ptD)) 1 ≤ 1 := Nat.min_le_right _ _
    omega
  · have e : ((ps.map ptD).any fun y => PyData.eqv y (ptD p)) = decide (p ∈ ps) := by
      rw [List.any_map]
      apply Bool.eq_iff_iff.mpr
      simp only [List.any_eq_true, Function.comp_apply, eqv_ptD, decide_eq_true_eq]
      constructor
      · rintro ⟨x, hx, rfl⟩
        exact hx
      · intro hx
        exact ⟨p, hx, rfl⟩
    rw [e]
    exact ⟨.bl _, H, I, rfl, q⟩
end
end Ah

/-! == of two lists whose items are equal by their own __eq__ -/
namespace PySem.SeqAt
open AutoSeq1 (wpAny_loadPart')
open MeetsSeq MeetsSeq2 MeetsSeq3 SeqRoads2
section
variable {prog : Program} {w : World}
theorem eq_loopP (l b : Addr) (items items2 : Array Value) (hsz : items.size = items2.size) (P : Shared → Prop) (k : Nat) :
    ∀ i : Nat, items.size - i = k → MeetsIn prog w (Builtin.«list.__eq__.loop» ⟨[.ref l, .ref b, rawInt i, rawInt 2], []⟩)
      (fun A R s => P s ∧ (∀ s, P s → s.heap.IsList l items ∧ s.heap.IsList b items2) ∧
        (∀ j (h1 : j < items.size) (h2 : j < items2.size) s, P s → wpAny (model prog w) A.in1 (eqBool items[j] items2[j]) (fun c s' => c = true ∧ P s') (fun e s' => R (.error e) s') s) ∧
        ∀ s', P s' → R (.ok (.ret (.bool true))) s') := by
  induction k with
  | zero =>
    intro i hk A R s h
    obtain ⟨p, ls, he, h⟩ := h
    obtain ⟨⟨⟨cls, dd, data, sl⟩, hl, hc, n, hd⟩, ⟨cls2, dd2, data2, sl2⟩, hb, hc2, n2, hd2⟩ := ls s p
    simp only at hc hd hc2 hd2
    subst hc hd hc2 hd2
    obtain ⟨hp, g, d, tk, os⟩ := s
    wp_walk using wpAny_loadPart' hl, wpAny_loadPart' hb
    have hi1 : items[((i : Nat) : Int).toNat]? = none := by simp; omega
    have hi2 : items2[((i : Nat) : Int).toNat]? = none := by simp; omega
    rw [hi1, hi2]
    wp_walk using wpAny_loadPart' hl, wpAny_loadPart' hb
    show R (.ok (.ret (.bool (items.size == items2.size)))) _
    rw [hsz, beq_self_eq_true]
    exact h _ p
  | succ k ih =>
    intro i hk A R s h
    obtain ⟨p, ls, he, h⟩ := h
    obtain ⟨⟨⟨cls, dd, data, sl⟩, hl, hc, n, hd⟩, ⟨cls2, dd2, data2, sl2⟩, hb, hc2, n2, hd2⟩ := ls s p
    simp only at hc hd hc2 hd2
    subst hc hd hc2 hd2
    obtain ⟨hp, g, d, tk, os⟩ := s
    wp_walk using wpAny_loadPart' hl, wpAny_loadPart' hb
    have hlt : i < items.size := by omega
    have hlt2 : i < items2.size := by omega
    have hi1 : items[((i : Nat) : Int).toNat]? = some items[i] := by simp [hlt]
    have hi2 : items2[((i : Nat) : Int).toNat]? = some items2[i] := by simp [hlt2]
    have hc : ((i : Int) + 1) = ((i + 1 : Nat) : Int) := by push_cast; rfl
    rw [hi1, hi2]
    refine wpAny_bind (wpAny_mono (he i hlt hlt2 _ p) (fun c s' hs => ?_) fun _ _ z => z)
    obtain ⟨rfl, p'⟩ := hs
    obtain ⟨hp, g, d, tk, os⟩ := s'
    wp_walk
    rw [hc]
    exact ⟨plainId_quiet plain_eq_loop _, codeAny_builtin entry_eq_loop (by
      rw [Around.under_plainId plain_eq_loop _]
      exact ih (i + 1) (by omega) A R _ ⟨p', ls, he, h⟩)⟩
theorem list_eqP (l b : Addr) (items items2 : Array Value) (hsz : items.size = items2.size) (P : Shared → Prop) :
    MeetsIn prog w (Builtin.«list.__eq__» ⟨[.ref l, .ref b], []⟩)
      (fun A R s => P s ∧ (∀ s, P s → s.heap.IsList l items ∧ s.heap.IsList b items2) ∧
        (∀ j (h1 : j < items.size) (h2 : j < items2.size) s, P s → wpAny (model prog w) A.in1 (eqBool items[j] items2[j]) (fun c s' => c = true ∧ P s') (fun e s' => R (.error e) s') s) ∧
        ∀ s', P s' → R (.ok (.ret (.bool true))) s') := by
  intro A R s h
  obtain ⟨p, ls, he, h⟩ := h
  obtain ⟨⟨⟨cls, dd, data, sl⟩, hl, hc, n, hd⟩, ⟨cls2, dd2, data2, sl2⟩, hb, hc2, n2, hd2⟩ := ls s p
  simp only at hc hd hc2 hd2
  subst hc hd hc2 hd2
  obtain ⟨hp, g, d, tk, os⟩ := s
  have f3 := AutoSeq1.sub_list_list
  have hne : ¬ (items.size != items2.size) = true := by simp [hsz]
  wp_walk using wpAny_loadPart' hl, wpAny_loadPart' hb
  exact ⟨plainId_quiet plain_eq_loop _, codeAny_builtin entry_eq_loop (by
    rw [Around.under_plainId plain_eq_loop _]
    exact eq_loopP l b items items2 hsz P _ 0 rfl A R _ ⟨p, ls, he, h⟩)⟩
theorem rc_listsP {A : Around} {s : Shared} {E : Value → Shared → Prop} {l b : Addr} {items items2 : Array Value} {Q : Value → Shared → Prop} (P : Shared → Prop) (p : P s) (hsz : items.size = items2.size) (hu : A.units < cLine) (ls : ∀ s, P s → s.heap.IsList l items ∧ s.heap.IsList b items2)
    (he : ∀ j (h1 : j < items.size) (h2 : j < items2.size) s, P s → wpAny (model prog w) A.in1 (eqBool items[j] items2[j]) (fun c s' => c = true ∧ P s') E s) (h : ∀ s', P s' → Q (.bool true) s') : wpAny (model prog w) A (richCompare .Eq (.ref l) (.ref b)) Q E s := by
  obtain ⟨⟨⟨cls, dd, data, sl⟩, ho, hc, n, hd⟩, ⟨cls2, dd2, data2, sl2⟩, ho2, hc2, n2, hd2⟩ := ls s p
  simp only at hc hd hc2 hd2
  subst hc hd hc2 hd2
  exact wpAny_richCompare_same_room (T := "list") (op := .Eq) ⟨_, ho, rfl⟩ ⟨_, ho2, rfl⟩ F.slot_list_eq (call_meetsIn F.slot_list_eq ⟨_, ho, rfl⟩ F.entry_list_eq (F.args_list_eq_2 _ _) (list_eqP l b items items2 hsz P)
    ⟨p, ls, he, fun s' p' => show Value.bool true ≠ Value.notImplemented ∧ Q (.bool true) s' from ⟨(fun x => nomatch x), h s' p'⟩⟩) hu
end
end PySem.SeqAt
namespace Ah
open PySem PySem.Spec PySem.W PySem.Calls PyProof.Rows L2 He
section
variable {X : Cx} {k j : Nat} {f C : Addr} {sp : Sp} {E : XK}
/-- l == m, lists of instances that are equal, one by one -/
def rEqLO (K : Frag) (C : Addr) (sp : Sp) : R2 := fun x y H Q => ∃ (a b : Addr) (xs ys : List Addr), x = .ref a ∧ y = .ref b ∧ H a = some (.lst (xs.map V.ref)) ∧ H b = some (.lst (ys.map V.ref)) ∧ xs.length = ys.length ∧
  (∀ (i : Nat) u v H', Same H H' → xs[i]? = some u → ys[i]? = some v → u = v ∨ ∃ dx fs kn, H' u = some (.ins C dx fs) ∧ Is K H' (.ref v) kn ∧ PySem.W.notFirst K C kn.ty = true ∧ sp [.ref u, .ref v] H' (fun z H2 => z = .bl true ∧ Same H H2) E0) ∧ ∀ H', Same H H' → Q (.bl true) H'
theorem op_eqLO (hm : Meth X.K C "__eq__" f) (F : FnB X.prog X.w X.K X.mg X.base k f sp) (hr : Rm j X.A) (hk : k + 1 ≤ j := by decide) : OpR X (compareOp .Eq) (rEqLO X.K C sp) := by
  intro pins s σ H x y v u Q I rx ry h
  obtain ⟨a, b, xs, ys, rfl, rfl, ha, hb, hl, he, q⟩ := h
  cases (show v = Value.ref a from rx)
  cases (show u = Value.ref b from ry)
  have hr1 : Rm (k + 1) X.A := hr.mono hk
  have isl : ∀ (c : Addr) (zs : List Addr) (s' : Shared) (H' : Hp), L2.Inv X pins σ H' s' → H' c = some (.lst (zs.map V.ref)) → s'.heap.IsList c (zs.map Value.ref).toArray := fun c zs s' H' I' hc => by
    obtain ⟨its, r, p, _⟩ := I'.list (SqL.of hc)
    rw [map_unref r] at p
    exact p.isList
  refine SeqAt.rc_listsP (items := (xs.map Value.ref).toArray) (items2 := (ys.map Value.ref).toArray) (fun s' => ∃ H', L2.Inv X pins σ H' s' ∧ Same H H') ⟨H, I, Same.refl _⟩ (by simpa using hl) (hu0 hr) (fun s' ⟨H', I', s1⟩ => ⟨isl a xs s' H' I' (s1 _ _ ha), isl b ys s' H' I' (s1 _ _ hb)⟩) (fun i h1 h2 s' hs => ?_) fun s' hs => ?_
  · obtain ⟨H', I', s1⟩ := hs
    have h1' : i < xs.length := by simpa using h1
    have h2' : i < ys.length := by simpa using h2
    have e1 : (xs.map Value.ref).toArray[i] = Value.ref xs[i] := by simp
    have e2 : (ys.map Value.ref).toArray[i] = Value.ref ys[i] := by simp
    rw [e1, e2]
    unfold eqBool
    refine wpAny_holding ?_
    refine wpAny_ite_split (fun hab => ?_) (fun hab => ?_)
    · exact wpAny_bind (wpAny_rule (wpAny_pure ⟨rfl, H', I', s1⟩))
    · rcases he i xs[i] ys[i] H' s1 (List.getElem?_eq_getElem h1') (List.getElem?_eq_getElem h2') with e | ⟨dx, fs, kn, hx, hy, hn, hsp⟩
      · rw [e] at hab
        exact absurd (beq_self_eq_true _) hab
      · obtain ⟨mA, O, _⟩ := ins_get I'.hok hx
        obtain ⟨od, J, _⟩ := O.look
        obtain ⟨m, hF⟩ := I'.fr
        refine wpAny_bind (PySem.W.cmp_K (op := .Eq) (tb := kn.ty) (by exact hr.hu) hF I'.ok.mod.kin J (looks_kn I' (show L2.RelV (.ref ys[i]) (.ref ys[i]) from rfl) hy _) hn hm.at_ hm.fn ?_)
        refine wpAny_mono (wpAny_call (runB (us := [.ref xs[i], .ref ys[i]]) (vs := [.ref xs[i], .ref ys[i]]) F hr1.in1 I'.env0.in1 passL I' (.cons rfl (.cons rfl .nil)) hsp)) (fun w s' z => ?_) fun _ _ x => x
        obtain ⟨z', H2, I2, rz, ez, s2⟩ := z
        subst ez
        cases (show w = Value.bool true from rz)
        exact wpAny_truthy_bool ⟨rfl, H2, I2, s2⟩
  · obtain ⟨H', I', s1⟩ := hs
    exact ⟨.bl true, H', I', rfl, q H' s1⟩
end
section
variable {X : Cx} {k j : Nat} {f C : Addr} {sp : Sp} {E : XK} {x m : Str} {o : Expr} {ta : TE} {p pos apos : Pos}
/-- o.m(), m's def has self and a starred parameter -/
theorem pe_mtV0 {pl : Sem Bool} (he : PE X o ta) (c : Cls X.K C) (hm : Meth X.K C m f) (F : FnV X.prog X.w X.K X.mg X.base k f 1 sp) (hr : Rm j X.A) (hx : Passes (L2.CX X.prog X.w) X E) (hk : k ≤ j := by decide)
    (ht : eval (.Call (.Attribute o m apos) [] [] pos) X.env = (do
      let ov ← eval o X.env
      standAt apos.atName
      let (f, first) ← holding [ov] (getMethod ov m pl)
      callWith pos f first (backTo pos (starEach [] X.env)) (backToKw pos (keywordEach [] X.env))) := by rfl) :
    PE X (.Call (.Attribute o m apos) [] [] pos) (tMeth C m (fun vs H Q E => ∃ x, vs = [x] ∧ ∀ p, H p = none → sp [x, .ref p] (upd H p (.tup [])) Q E) [] E ta tNil) := by
  refine ⟨fun pins s σ H Q I h => PySem.W.methodCall_KW (pl := pl) (thn (he.run pins s σ H _ I h) fun u s1 ⟨x, H1, I1, rx, a, dx, fs, ex, ea, l, q⟩ => ?_) ht⟩
  subst ex
  cases (show u = Value.ref a from rx)
  obtain ⟨x, e1, q3⟩ := q
  simp only [List.append_nil, List.cons.injEq, and_true] at e1
  subst e1
  have hf : H1 s1.heap.objs.size = none := I1.hok.fresh (Nat.le_refl _)
  have I3 : L2.Inv X pins σ (upd H1 s1.heap.objs.size (.tup [])) (pushT s1 []) := by
    refine I1.laid (t' := s1.toks) (fun b u e => Heap.get?_push_of_some _ e) (Nat.le_refl _) ?_
    exact ⟨Nat.zero_le _, [], .nil, ⟨_, Heap.get?_push_size _ rfl, rfl, _, rfl⟩⟩
  refine getmeth_ok I1 ea c hm l (PySem.W.callWith_K0 (first := [.ref a]) I1.kIn hm.kp (wpAny_call (F.run X.A X.stack s1 _ [.ref a] [] [.ref a] Q E _ (hr.mono hk) I3.env0 rfl (.cons rfl .nil) I1.kIn (Nat.zero_le _) (q3 _ hf) fun res s' hq => ?_)))
  match res, hq with
  | .error e, hq => exact hx pins σ _ _ e s' I3 hq
  | .ok (.ret u), hq => exact I3.after hq
end
/-- a comprehension over a list that takes none -/
theorem lc_none {K : Frag} {tl te : TE} {tt : TT} {σ : L2.St} {i : Nat} {H : Hp} {L : Addr} {xs : List V} {Q : VK} (hL : H L = some (.lst xs))
    (hl : ∀ Q', Q' (.ref L) H → tl σ H Q')
    (ht : ∀ x G Q', x ∈ xs → Same H G → (∀ G', Same G G' → Q' false G') → tt ((wipe σ [i]).set i (some x)) G Q')
    (hw : ∀ x, wipe ((wipe σ [i]).set i (some x)) [i] = wipe σ [i])
    (q : ∀ H' D, Same H H' → H D = none → H' D = some (.lst []) → Q (.ref D) H') : tLc (iList K tl) (gName i) tt te [i] σ H Q := by
  refine hl _ ⟨L, rfl, ⟨_, SqL.of hL⟩, fun D hD => ?_⟩
  refine lc_it (walk_list (xs := xs)) (fun j H2 => H2 D = some (.lst []) ∧ Same H H2) ?_ (fun j H2 _ h => SqL.of (h.2 _ _ hL)) ?_ ?_
  · exact ⟨upd_same, Same.upd (Same.refl _) hD⟩
  · rintro j y H2 H3 hj ⟨hb, s⟩ ⟨rfl, hy⟩
    refine ⟨hw _, ht y H3 _ (List.mem_of_getElem? hy) s fun G' sG => ?_⟩
    rw [if_neg (by decide)]
    exact ⟨sG _ _ hb, s.trans sG⟩
  · rintro H2 ⟨hb, s⟩
    exact q H2 D s hD hb
section
variable {X : Cx} {k j : Nat} {f C : Addr} {sp : Sp} {E : XK}
/-- != of what is None or an instance of C -/
def rNeMO (K : Frag) (C : Addr) (sp : Sp) (E : XK) : R2 := fun x y H Q => (x = .non ∧ y = .non ∧ Q (.bl false) H) ∨ rNeO K C sp E x y H Q
theorem op_neMO (hm : Meth X.K C "__eq__" f) (hne : NoNe X.K C) (F : FnB X.prog X.w X.K X.mg X.base k f sp) (hr : Rm j X.A) (hx : Passes (L2.CX X.prog X.w) X E) (hk : k + 1 ≤ j := by decide) : OpR X (compareOp .NotEq) (rNeMO X.K C sp E) := by
  intro pins s σ H x y v u Q I rx ry h
  rcases h with ⟨rfl, rfl, q⟩ | h
  · exact op_ne pins s σ H _ _ v u Q I rx ry ⟨rfl, by rw [decide_eq_true rfl]; exact q⟩
  · exact op_neO hm hne F hr hx hk pins s σ H x y v u Q I rx ry h
end
end Ah
namespace L2
open PySem PySem.Spec PyProof.Rows
section
variable {X : Cx}
/-- x = {k: v for ..}, keys tuples -/
theorem ps_setDcT {i : Nat} {y : Str} {py : Pos} {kx vx tg iter : Expr} {ifs : List Expr} {scope : Scope} {own : List (Str × Nat)} {pos spos : Pos} {wi : TI} {g : TG} {tt : TT} {tk tv : TE} (hu : X.A.units + 1 < cLine) (hc : X.calm = true) (hN : X.N.Nodup) (hy : X.N[i]? = some y) (hyl : X.env.scope.names.lookup y = some .local)
    (hsw : swapsWith (.DictComp kx vx [⟨tg, iter, ifs, 0⟩] scope pos) (some (.Name y py)) spos.line X.env = pure true) (hi : PI X tg iter wi) (ok : BlkOk X.N X.env.scope scope own)
    (hg : ∀ (s : Shared) (H : Hp) (C : Addr) (cl : List (Str × Addr)) (fp : List Addr), PG (X.blk s H scope (compEnvC scope cl C X.env) fp) tg g) (ht : ∀ (s : Shared) (H : Hp) (C : Addr) (cl : List (Str × Addr)) (fp : List Addr), PTs (X.blk s H scope (compEnvC scope cl C X.env) fp) ifs tt)
    (hk : ∀ (s : Shared) (H : Hp) (C : Addr) (cl : List (Str × Addr)) (fp : List Addr), PE (X.blk s H scope (compEnvC scope cl C X.env) fp) kx tk)
    (he : ∀ (s : Shared) (H : Hp) (C : Addr) (cl : List (Str × Addr)) (fp : List Addr), PE (X.blk s H scope (compEnvC scope cl C X.env) fp) vx tv) (hs : ∀ x, foldedSetIterable iter X.env x = pure x := by intro _; rfl) :
    PS X (.Assign [.Name y py] (.DictComp kx vx [⟨tg, iter, ifs, 0⟩] scope pos) spos) (tAsg (tDcT wi g tt tk tv (own.map (·.2))) (gName i)) := by
  refine ⟨fun pins s σ H D I h => ?_⟩
  rw [exec_Assign_Name_used _ _ _ _ hsw]
  refine wpAny_bind (wpAny_standAt (wpAny_bind ?_))
  show wpAny _ X.A (do let _ ← comprehension (.DictComp kx vx [⟨tg, iter, ifs, 0⟩] scope pos) scope X.env (firstIterPos [⟨tg, iter, ifs, 0⟩] pos) newDict false (eval iter X.env) (some (assign (.Name y py) X.env))) _ _ s
  have h : tDcT wi g tt tk tv (own.map (·.2)) σ H (fun x H1 => gName i x σ H1 D.nx) := h
  refine wpAny_bind (thn (dcT_core (Qf := fun _ s' => SP X pins D .next s') hu hc hN I hi ok hg ht hk he hs h fun L C s' m H' I' q hn f => ?_) fun _ s' hq => wpAny_pure (wpAny_pure hq))
  show wpAny _ _ (assign (.Name y py) X.env (.ref L)) _ _ _
  refine wpAny_assign_Name (store_ok2 (v := V.ref L) I' hN hy (.inl hyl) rfl (fun s2 I2 ⟨a, sb, ha⟩ => ?_) (.inr hyl))
  obtain ⟨f0, f1, f2, f3, f4, f5⟩ := f
  have haC : C ≠ a := by
    rcases ha with z | z
    · rw [z]; exact f1
    · exact fun e => f4 y a z e.symm
  refine ⟨m, hn.sameBut sb haC, fun h3 sb3 => ?_⟩
  exact ⟨_, H', I2.turned (t' := s2.toks) (fun b o hb e => (sb3.2 b hb).trans e) f0 f1 f3 f4 f5, q⟩
theorem sw_trueD {kx vx : Expr} {gs : List Comprehension} {scope : Scope} {pos py : Pos} {y : Str} {l : Nat} {env : Env} (hk : env.scope.kind = .function) (hy : env.scope.names.lookup y = some .local) (hl : (py.line == pos.line) = true)
    (ha : (scope.names.any fun (n, k) => n == y && (k == .local || k == .cell)) = false) : swapsWith (.DictComp kx vx gs scope pos) (some (.Name y py)) l env = pure true := by
  have ky : env.kindOf y = some .local := hy
  have hb : env.blockKind = .function := by unfold Env.blockKind; rw [hk]; rfl
  unfold swapsWith
  simp only [hb, ky, ha, Expr.pos, hl]
  rfl
end
end L2

/-! dict comprehensions with two clauses, keys tuples -/
namespace L2
open PySem PySem.Spec PyProof.Rows
theorem compTurnD2_out (kx vx t0 i0 t1 i1 : Expr) (ifs0 ifs1 : List Expr) (scope : Scope) (pos : Pos) (it acc : Value) (env : Env) :
    compTurn (.DictComp kx vx [⟨t0, i0, ifs0, 0⟩, ⟨t1, i1, ifs1, 0⟩] scope pos) 0 it acc env = (do
      standAt i0.pos
      match ← pyNext it with
      | none => pure (.done .next)
      | some v =>
        letOwnedTupleGo t0 it v
        assign t0 env v
        let mut ok := true
        for c in ifs0 do
          if ok then ok ← isTrue c env (eval c env)
        if ok then
          let x ← eval i1 env
          standAt i1.pos
          let x ← foldedSetIterable i1 env x
          let _ ← runOwn (.compStart (.DictComp kx vx [⟨t0, i0, ifs0, 0⟩, ⟨t1, i1, ifs1, 0⟩] scope pos) 1 (← holding [x] (pyIter x)) acc env) env
        again (.compLoop (.DictComp kx vx [⟨t0, i0, ifs0, 0⟩, ⟨t1, i1, ifs1, 0⟩] scope pos) 0 it acc env)) := by rfl
theorem compTurnD2_in (kx vx t0 i0 t1 i1 : Expr) (ifs0 ifs1 : List Expr) (scope : Scope) (pos : Pos) (it : Value) (D : Addr) (env : Env) :
    compTurn (.DictComp kx vx [⟨t0, i0, ifs0, 0⟩, ⟨t1, i1, ifs1, 0⟩] scope pos) 1 it (.ref D) env = (do
      standAt i1.pos
      match ← pyNext it with
      | none => pure (.done .next)
      | some v =>
        letOwnedTupleGo t1 it v
        assign t1 env v
        let mut ok := true
        for c in ifs1 do
          if ok then ok ← isTrue c env (eval c env)
        if ok then
          (do
            let kv ← eval kx env
            let vv ← holding [kv] (eval vx env)
            standAt { kx.pos with endLine := vx.pos.endLine, endCol := vx.pos.endCol }
            holding [kv, vv] (dictSet D kv vv))
        again (.compLoop (.DictComp kx vx [⟨t0, i0, ifs0, 0⟩, ⟨t1, i1, ifs1, 0⟩] scope pos) 1 it (.ref D) env)) := by rfl

section
variable {prog : Program} {w : World} {A : Around} {R : Result → Shared → Prop} {s : Shared} {kx vx t0 i0 t1 i1 : Expr} {ifs0 ifs1 : List Expr} {scope : Scope} {pos : Pos} {it acc : Value} {env : Env}
/-- the loop of the first clause -/
theorem compLoopD2_out (hs : ∀ x, foldedSetIterable i1 env x = pure x) (I : Nat → Shared → Prop)
    (turn : ∀ n s, I n s → wpAny (model prog w) A (pyNext it) (fun r s₁ => match r with
      | none => R (.ok .next) s₁
      | some v => wpAny (model prog w) A (letOwnedTupleGo t0 it v) (fun _ s₁' => wpAny (model prog w) A (assign t0 env v) (fun _ s₂ =>
          wpAny (model prog w) A (forIn ifs0 true fun c r => if r = true then do let ok ← isTrue c env (eval c env); pure (ForInStep.yield ok) else pure (ForInStep.yield r)) (fun ok s₃ =>
            if ok = true then wpAny (model prog w) A (eval i1 env) (fun x s₄ => wpAny (model prog w) A (pyIter x) (fun it1 s₅ =>
              codeAny (model prog w) A (.compStart (.DictComp kx vx [⟨t0, i0, ifs0, 0⟩, ⟨t1, i1, ifs1, 0⟩] scope pos) 1 it1 acc env) (fun r s' => match r with
                | .ok _ => ∃ m, m < n ∧ I m s'
                | .error _ => False) s₅) (notedBy (model prog w) A env fun e s' => R (.error e) s') s₄) (notedBy (model prog w) A env fun e s' => R (.error e) s') s₃
            else ∃ m, m < n ∧ I m s₃) (notedBy (model prog w) A env fun e s' => R (.error e) s') s₂) (notedBy (model prog w) A env fun e s' => R (.error e) s') s₁') (notedBy (model prog w) A env fun e s' => R (.error e) s') s₁) (notedBy (model prog w) A env fun e s' => R (.error e) s') s)
    (n : Nat) (h : I n s) :
    codeAny (model prog w) A (.compLoop (.DictComp kx vx [⟨t0, i0, ifs0, 0⟩, ⟨t1, i1, ifs1, 0⟩] scope pos) 0 it acc env) R s := by
  refine codeAny_loop rfl I (fun n s hI => ?_) n h
  show wpAny _ A ((compTurn (.DictComp kx vx [⟨t0, i0, ifs0, 0⟩, ⟨t1, i1, ifs1, 0⟩] scope pos) 0 it acc env).onRaise (fun x => do noteFrame x env; theTreesLotGoes x)) _ _ s
  refine wpAny_noted ?_
  rw [compTurnD2_out]
  refine wpAny_bind (wpAny_standAt (wpAny_bind (wpAny_mono (turn n s hI) (fun r s₁ h₁ => ?_) fun _ _ h' => h')))
  cases r with
  | none => exact wpAny_pure h₁
  | some v =>
    refine wpAny_bind (wpAny_mono h₁ (fun _ s₁' h₁' => ?_) fun _ _ h' => h')
    refine wpAny_bind (wpAny_mono h₁' (fun _ s₂ h₂ => wpAny_bind (wpAny_mono h₂ (fun ok s₃ h₃ => ?_) fun _ _ h' => h')) fun _ _ h' => h')
    cases ok with
    | false => exact wpAny_pure ⟨rfl, h₃⟩
    | true =>
      refine wpAny_bind (wpAny_mono h₃ (fun x s₄ h₄ => ?_) fun _ _ h' => h')
      refine wpAny_bind (wpAny_standAt (wpAny_bind (wpAny_of_eq (hs x) (wpAny_bind (wpAny_holding (wpAny_mono h₄ (fun it1 s₅ h₅ => ?_) fun _ _ h' => h'))))))
      refine wpAny_bind (wpAny_runOwn ?_)
      rw [Around.mark_none]
      refine codeAny_mono h₅ fun r s' hr => ?_
      cases r with
      | ok f =>
        first
          | exact wpAny_pure ⟨rfl, hr⟩
          | exact wpAny_bind (wpAny_pure (wpAny_pure ⟨rfl, hr⟩))
      | error e => exact hr.elim
/-- the loop of the second -/
theorem compLoopD2_in {D : Addr} (I : Nat → Shared → Prop)
    (turn : ∀ n s, I n s → wpAny (model prog w) A (pyNext it) (fun r s₁ => match r with
      | none => R (.ok .next) s₁
      | some v => wpAny (model prog w) A (letOwnedTupleGo t1 it v) (fun _ s₁' => wpAny (model prog w) A (assign t1 env v) (fun _ s₂ =>
          wpAny (model prog w) A (forIn ifs1 true fun c r => if r = true then do let ok ← isTrue c env (eval c env); pure (ForInStep.yield ok) else pure (ForInStep.yield r)) (fun ok s₃ =>
            if ok = true then wpAny (model prog w) A (eval kx env) (fun kv s₄ => wpAny (model prog w) A (eval vx env) (fun vv s₅ =>
              wpAny (model prog w) A (dictSet D kv vv) (fun _ s₆ => ∃ m, m < n ∧ I m s₆) (notedBy (model prog w) A env fun e s' => R (.error e) s') s₅) (notedBy (model prog w) A env fun e s' => R (.error e) s') s₄) (notedBy (model prog w) A env fun e s' => R (.error e) s') s₃
            else ∃ m, m < n ∧ I m s₃) (notedBy (model prog w) A env fun e s' => R (.error e) s') s₂) (notedBy (model prog w) A env fun e s' => R (.error e) s') s₁') (notedBy (model prog w) A env fun e s' => R (.error e) s') s₁) (notedBy (model prog w) A env fun e s' => R (.error e) s') s)
    (n : Nat) (h : I n s) :
    codeAny (model prog w) A (.compLoop (.DictComp kx vx [⟨t0, i0, ifs0, 0⟩, ⟨t1, i1, ifs1, 0⟩] scope pos) 1 it (.ref D) env) R s := by
  refine codeAny_loop rfl I (fun n s hI => ?_) n h
  show wpAny _ A ((compTurn (.DictComp kx vx [⟨t0, i0, ifs0, 0⟩, ⟨t1, i1, ifs1, 0⟩] scope pos) 1 it (.ref D) env).onRaise (fun x => do noteFrame x env; theTreesLotGoes x)) _ _ s
  refine wpAny_noted ?_
  rw [compTurnD2_in]
  refine wpAny_bind (wpAny_standAt (wpAny_bind (wpAny_mono (turn n s hI) (fun r s₁ h₁ => ?_) fun _ _ h' => h')))
  cases r with
  | none => exact wpAny_pure h₁
  | some v =>
    refine wpAny_bind (wpAny_mono h₁ (fun _ s₁' h₁' => ?_) fun _ _ h' => h')
    refine wpAny_bind (wpAny_mono h₁' (fun _ s₂ h₂ => wpAny_bind (wpAny_mono h₂ (fun ok s₃ h₃ => ?_) fun _ _ h' => h')) fun _ _ h' => h')
    cases ok with
    | false => exact wpAny_pure ⟨rfl, h₃⟩
    | true =>
      exact wpAny_bind (wpAny_bind (wpAny_mono h₃ (fun kv s₄ h₄ => wpAny_bind (wpAny_holding (wpAny_mono h₄ (fun vv s₅ h₅ => wpAny_bind (wpAny_standAt (wpAny_holding (wpAny_mono h₅ (fun _ s₆ h₆ => wpAny_pure ⟨rfl, h₆⟩) fun _ _ h' => h')))) fun _ _ h' => h'))) fun _ _ h' => h'))
/-- the second clause's start -/
theorem compStartD1_ok (h0 : codeAny (model prog w) A (.compLoop (.DictComp kx vx [⟨t0, i0, ifs0, 0⟩, ⟨t1, i1, ifs1, 0⟩] scope pos) 1 it acc env) R s)
    (h : wpAny (model prog w) A (pyIter it) (fun it' s' => codeAny (model prog w) A (.compLoop (.DictComp kx vx [⟨t0, i0, ifs0, 0⟩, ⟨t1, i1, ifs1, 0⟩] scope pos) 1 it' acc env) R s')
      (notedBy (model prog w) A env fun x s' => R (.error x) s') s) :
    codeAny (model prog w) A (.compStart (.DictComp kx vx [⟨t0, i0, ifs0, 0⟩, ⟨t1, i1, ifs1, 0⟩] scope pos) 1 it acc env) R s := by
  refine codeAny_of_tree ?_
  show wpAny _ _ ((compStart (.DictComp kx vx [⟨t0, i0, ifs0, 0⟩, ⟨t1, i1, ifs1, 0⟩] scope pos) 1 it acc env).onRaise (fun x => do noteFrame x env; standAt theWindowsPlace)) _ _ s
  refine wpAny_notedAt ?_
  unfold compStart
  show wpAny _ _ (ask >>= _) _ _ s
  refine wpAny_bind (wpAny_askSetting (wpAny_ite ?_))
  split
  · first
      | exact wpAny_bind (wpAny_pure (wpAny_pure (And.intro rfl h0)))
      | exact wpAny_pure (And.intro rfl h0)
  · first
      | exact wpAny_bind (wpAny_rule (wpAny_bind (wpAny_standAt (wpAny_bind (wpAny_mono h (fun it' s' h' => wpAny_pure (And.intro rfl h')) fun _ _ x => x)))))
      | (refine wpAny_bind (wpAny_rule ?_); show wpAny _ _ (standAt i1.pos >>= _) _ _ s; exact wpAny_bind (wpAny_standAt (wpAny_bind (wpAny_mono h (fun it' s' h' => wpAny_pure (And.intro rfl h')) fun _ _ x => x))))
end

section
variable {X : Cx}
/-- {kx: vx for tg in iter if .. for tg1 in iter1 if ..}, keys tuples: behind the first clause's store and tests the second source's own loop, from which Nx is reached. vs: the block's names; vs1: those of the second target -/
def tDc2 (wi : TI) (g : TG) (tt : TT) (wi1 : TI) (g1 : TG) (tt1 : TT) (tk tv : TE) (vs vs1 : List Nat) : TE := fun σ H Q => wi σ H fun J H1 => ∀ D, H1 D = none → ∃ W : Nat → Nat → Hp → Prop, (∃ m, W 0 m (upd H1 D (.dT []))) ∧ ∀ i m H, W i m H →
  (J.stop i H ∧ Q (.ref D) H) ∨ (J.go i H ∧ ∃ Nx : Hp → Prop, (∀ H', Nx H' → ∃ m', m' < m ∧ W (i + 1) m' H') ∧ ∀ x H', J.yld i H x H' → g x (wipe σ vs) H' fun σ2 H2 => wipe σ2 vs = wipe σ vs ∧ tt σ2 H2 fun b H3 =>
    if b = true then wi1 σ2 H3 fun J1 H4 => ∃ W1 : Nat → Nat → Hp → Prop, (∃ m, W1 0 m H4) ∧ ∀ j k H, W1 j k H →
      (J1.stop j H ∧ Nx H) ∨ (J1.go j H ∧ ∃ Nx1 : Hp → Prop, (∀ H', Nx1 H' → ∃ k', k' < k ∧ W1 (j + 1) k' H') ∧ ∀ x H', J1.yld j H x H' → g1 x (wipe σ2 vs1) H' fun σ3 H5 => wipe σ3 vs1 = wipe σ2 vs1 ∧ tt1 σ3 H5 fun b H6 =>
        if b = true then tk σ3 H6 fun y H7 => tv σ3 H7 fun z H8 => ∃ kvs k bq, y = .ref bq ∧ H8 bq = some (.tup (List.map kV k)) ∧ H8 D = some (.dT kvs) ∧ kvs.length < sizeLine ∧ Nx1 (upd H8 D (.dT (putK kvs k z))) else Nx1 H6)
    else Nx H3)
theorem dc2_core {pins : List (Addr × Obj)} {s : Shared} {σ : St} {H : Hp} {Q : VK} {kx vx tg iter tg1 iter1 : Expr} {ifs ifs1 : List Expr} {scope : Scope} {own : List (Str × Nat)} {vs1 : List Nat} {pos pos' : Pos} {wi wi1 : TI} {g g1 : TG} {tt tt1 : TT} {tk tv : TE} {use : Option (Value → Sem Unit)} {Qf : Value → Shared → Prop}
    (hu : X.A.units + 1 < cLine) (hc : X.calm = true) (hN : X.N.Nodup) (I : Inv X pins σ H s) (hi : PI X tg iter wi) (ok : BlkOk X.N X.env.scope scope own) (hv : ∀ i ∈ vs1, i ∈ own.map (·.2))
    (hg : ∀ (s : Shared) (H : Hp) (C : Addr) (cl : List (Str × Addr)) (fp : List Addr), PG (X.blk s H scope (compEnvC scope cl C X.env) fp) tg g) (ht : ∀ (s : Shared) (H : Hp) (C : Addr) (cl : List (Str × Addr)) (fp : List Addr), PTs (X.blk s H scope (compEnvC scope cl C X.env) fp) ifs tt)
    (hk : ∀ (s : Shared) (H : Hp) (C : Addr) (cl : List (Str × Addr)) (fp : List Addr), PE (X.blk s H scope (compEnvC scope cl C X.env) fp) kx tk)
    (he : ∀ (s : Shared) (H : Hp) (C : Addr) (cl : List (Str × Addr)) (fp : List Addr), PE (X.blk s H scope (compEnvC scope cl C X.env) fp) vx tv) (hs : ∀ x, foldedSetIterable iter X.env x = pure x)
    (hi1 : ∀ (s : Shared) (H : Hp) (C : Addr) (cl : List (Str × Addr)) (fp : List Addr), PI (X.blk s H scope (compEnvC scope cl C X.env) fp) tg1 iter1 wi1)
    (hg1 : ∀ (s : Shared) (H : Hp) (C : Addr) (cl : List (Str × Addr)) (fp : List Addr), PG (X.blk s H scope (compEnvC scope cl C X.env) fp) tg1 g1)
    (ht1 : ∀ (s : Shared) (H : Hp) (C : Addr) (cl : List (Str × Addr)) (fp : List Addr), PTs (X.blk s H scope (compEnvC scope cl C X.env) fp) ifs1 tt1)
    (hs1 : ∀ env x, foldedSetIterable iter1 env x = pure x)
    (h : tDc2 wi g tt wi1 g1 tt1 tk tv (own.map (·.2)) vs1 σ H Q)
    (hRR : ∀ D C s' m H', Inv X pins σ H' s' → Q (.ref D) H' → s'.heap.Ns C m → FpOk X pins H' C → compPost (model X.prog X.w) X.A X.xe use Qf (.ref D) C (.ok .next) s') :
    wpAny (model X.prog X.w) X.A (comprehension (.DictComp kx vx [⟨tg, iter, ifs, 0⟩, ⟨tg1, iter1, ifs1, 0⟩] scope pos) scope X.env pos' newDict false (eval iter X.env) use) Qf X.xe s := by
  have hfree : ∀ y ∈ scope.names, y.2 = .free → ∃ c, X.env.cells.lookup y.1 = some c := fun y hy e => by
    rcases ok.free y hy e with k | k
    · exact I.ok.has _ (.inl k)
    · exact I.ok.has _ (.inr k)
  refine wpAny_comprehension_free (use := use) rfl hs (closure_ok hfree) ok.kind (fun y hy e => by rw [ok.uniq y hy, e])
    (thn (hi.run pins s σ H _ I h) fun xv s1 hx => thn hx fun itv s2 h2 => ?_)
  obtain ⟨it, fp, tn, J, H2, e, I2, T, st2, f2, q⟩ := h2
  subst e
  refine wpAny_newObj_type (newEnv_comp ?_)
  generalize hD : s2.heap.objs.size = D
  have hDn : H2 D = none := I2.hok.fresh (Nat.le_of_eq hD)
  obtain ⟨W, ⟨m0, w0⟩, turn⟩ := q D hDn
  -- the new list
  generalize hs3 : ({ s2 with heap := s2.heap.push { cls := .type "dict", data := .dict #[] } } : Shared) = s3
  have I3 : Inv X pins σ (upd H2 D (.dT [])) s3 := by
    rw [← hs3]
    refine I2.laid (t' := s2.toks) (fun b o e => Heap.get?_push_of_some _ e) (Nat.le_of_eq hD) ?_
    rw [← hD]
    exact dt_empty s2.heap I2.big
  have h3 : s3.heap = s2.heap.push { cls := .type "dict", data := .dict #[] } := by rw [← hs3]
  have sz : ∀ b ∈ fp, b < s2.heap.objs.size := fun b hb => by
    obtain ⟨o, e, _⟩ := T.obj _ _ st2 b hb
    exact Heap.lt_size e
  have f3 : ∀ b ∈ fp, FpOk X pins (upd H2 D (.dT [])) b ∧ b < s3.heap.objs.size := fun b hb => by
    have hlt := sz b hb
    refine ⟨⟨?_, (f2 b hb).2⟩, by rw [h3, Heap.size_push]; exact Nat.lt_succ_of_lt hlt⟩
    rw [upd_ne (by rw [← hD]; exact Nat.ne_of_lt hlt)]
    exact (f2 b hb).1
  have st3 : tn 0 s3.heap := T.keep _ _ _ st2 fun b _ o e => by rw [h3]; exact Heap.get?_push_of_some _ e
  have I4 := block_start I3 ok hN f3
  have pg := hg s3 (upd H2 D (.dT [])) s3.heap.objs.size (cellsFrom (s3.heap.objs.size + 1) scope.names (cloFrom X.env.cells scope.names [])) fp
  have pt := ht s3 (upd H2 D (.dT [])) s3.heap.objs.size (cellsFrom (s3.heap.objs.size + 1) scope.names (cloFrom X.env.cells scope.names [])) fp
  have pk := hk s3 (upd H2 D (.dT [])) s3.heap.objs.size (cellsFrom (s3.heap.objs.size + 1) scope.names (cloFrom X.env.cells scope.names [])) fp
  have pe := he s3 (upd H2 D (.dT [])) s3.heap.objs.size (cellsFrom (s3.heap.objs.size + 1) scope.names (cloFrom X.env.cells scope.names [])) fp
  have pi1 := hi1 s3 (upd H2 D (.dT [])) s3.heap.objs.size (cellsFrom (s3.heap.objs.size + 1) scope.names (cloFrom X.env.cells scope.names [])) fp
  have pg1 := hg1 s3 (upd H2 D (.dT [])) s3.heap.objs.size (cellsFrom (s3.heap.objs.size + 1) scope.names (cloFrom X.env.cells scope.names [])) fp
  have pt1 := ht1 s3 (upd H2 D (.dT [])) s3.heap.objs.size (cellsFrom (s3.heap.objs.size + 1) scope.names (cloFrom X.env.cells scope.names [])) fp
  show codeAny _ _ (.compStart (.DictComp kx vx [⟨tg, iter, ifs, 0⟩, ⟨tg1, iter1, ifs1, 0⟩] scope pos) 0 (.ref it) (.ref D) (compEnvC scope (cellsFrom (s3.heap.objs.size + 1) scope.names (cloFrom X.env.cells scope.names [])) s3.heap.objs.size X.env)) (compPost (model X.prog X.w) X.A X.xe use Qf (.ref D) s3.heap.objs.size) { s3 with heap := pushCells (s3.heap.push { cls := .type "dict", data := .dict #[] }) scope.names }
  have nfp : ∀ b ∈ fp, (upd H2 D (.dT [])) b = none := fun b hb => (f3 b hb).1.1
  generalize hce : compEnvC scope (cellsFrom (s3.heap.objs.size + 1) scope.names (cloFrom X.env.cells scope.names [])) s3.heap.objs.size X.env = ce at I4 pg pt pk pe pi1 pg1 pt1 ⊢
  have cL : ce.locals = s3.heap.objs.size := by subst hce; rfl
  generalize hH3 : upd H2 D (.dT []) = H3 at I3 I4 pg pt pk pe pi1 pg1 pt1 w0 nfp f3
  generalize hs4 : ({ s3 with heap := pushCells (s3.heap.push { cls := .type "dict", data := .dict #[] }) scope.names } : Shared) = s4 at I4 ⊢
  have st4 : tn 0 s4.heap := T.keep _ _ _ st3 fun b _ o e => by rw [← hs4]; exact pushCells_keeps _ _ _ _ (Heap.get?_push_of_some _ e)
  have stat : ∀ {σ' : St} {H' : Hp} {s' : Shared}, Inv (X.blk s3 H3 scope ce fp) [] σ' H' s' → (∀ b ∈ fp, H' b = none) → ∀ b ∈ fp, FpOk (X.blk s3 H3 scope ce fp) [] H' b := fun {σ' H' s'} I' hn b hb =>
    ⟨hn b hb, (I'.ok.exf b hb).1, I'.ok.exfs b hb, .inl hb, fun x c e => (I'.ok.exf b hb).2 x c e, fun p hp => absurd (show p ∈ ([] : List (Addr × Obj)) ++ [] from hp) (by simp)⟩
  have loop : codeAny (model X.prog X.w) X.A (.compLoop (.DictComp kx vx [⟨tg, iter, ifs, 0⟩, ⟨tg1, iter1, ifs1, 0⟩] scope pos) 0 (.ref it) (.ref D) ce) (compPost (model X.prog X.w) X.A X.xe use Qf (.ref D) s3.heap.objs.size) s4 := by
    refine compLoopD2_out (hs1 ce) (fun n s' => ∃ i H', Inv (X.blk s3 H3 scope ce fp) [] (wipe σ (own.map (·.2))) H' s' ∧ tn i s'.heap ∧ (∀ b ∈ fp, H' b = none) ∧ W i n H') ?_ m0 ⟨0, H3, I4, st4, nfp, w0⟩
    rintro n s5 ⟨i, H5, I5, st5, n5, w5⟩
    rcases turn i n H5 w5 with ⟨stop, qq⟩ | ⟨go, Nx, hNx, step⟩
    · have td := T.done (X.blk s3 H3 scope ce fp) rfl rfl rfl hc i [] s5 _ H5 (fun _ _ => False) I5 (stat I5 n5) st5 stop
      refine thnF td fun r s6 ⟨hr, I6⟩ => ?_
      subst hr
      -- back in the def's context
      have I7 : Inv X pins σ H5 s6 := I3.call' (ch := fp) I6.os I6.base I6.hok I6.bare fun b hb => ⟨(f3 b hb).1.2.2.2.1, (f3 b hb).1.2.1, (f3 b hb).1.2.2.2.2.1, (f3 b hb).1.2.2.2.2.2⟩
      have nC : H5 s3.heap.objs.size = none := by
        have z : H5 ce.locals = none := I6.free
        rw [cL] at z
        exact z
      obtain ⟨m, hn, _⟩ := I6.loc
      have hn : s6.heap.Ns ce.locals m := hn
      rw [cL] at hn
      exact hRR D s3.heap.objs.size s6 m H5 I7 qq hn (I3.fpOk (Nat.le_refl _) nC)
    · have ti := T.item (X.blk s3 H3 scope ce fp) rfl rfl rfl hc i [] s5 _ H5 (fun _ _ => False) I5 (stat I5 n5) st5 go
      refine thnF ti fun r s6 ⟨u, hr, h6⟩ => ?_
      subst hr
      refine thnF h6 fun _ s7 ⟨x, H7, I7, r7, y7, st7, n7⟩ => ?_
      have I7' := I7.pinned (stat I7 n7) (T.obj _ _ st7)
      refine thnF (pg.run _ s7 _ H7 x u _ I7' r7 (step x H7 y7)) fun _ s8 ⟨σ8, H8, I8, hw8, q8⟩ => ?_
      refine thnF (pt.run _ s8 σ8 H8 _ I8 q8) fun b s9 ⟨H9, I9, q9⟩ => ?_
      -- the turn's end, from any slots that know what the block knew at its start
      have fin : ∀ {σ9 : St} {s' : Shared} {H' : Hp}, Inv (X.blk s3 H3 scope ce fp) ([] ++ pinsAt fp s7.heap) σ9 H' s' → (wipe σ (own.map (·.2))).length = σ9.length → (∀ (j : Nat) v, (wipe σ (own.map (·.2)))[j]? = some (some v) → σ9[j]? = some (some v)) → Nx H' →
          ∃ m, m < n ∧ ∃ i H', Inv (X.blk s3 H3 scope ce fp) [] (wipe σ (own.map (·.2))) H' s' ∧ tn i s'.heap ∧ (∀ b ∈ fp, H' b = none) ∧ W i m H' := fun {σ9 s' H'} I' hl hk nx => by
        obtain ⟨m', hm, w'⟩ := hNx H' nx
        have pin' : ∀ b ∈ fp, ∀ o, s7.heap.get? b = some o → s'.heap.get? b = some o ∧ H' b = none := fun b hb o e =>
          let z := I'.pin (b, o) (List.mem_append_right _ (List.mem_append_right _ (mem_pinsAt hb e)))
          ⟨z.1, z.2.1⟩
        refine ⟨m', hm, i + 1, H', (I'.unpinned (pins := [])).weak hl hk, T.keep _ _ _ st7 fun b hb o e => (pin' b hb o e).1, fun b hb => ?_, w'⟩
        obtain ⟨o, e, _⟩ := T.obj _ _ st7 b hb
        exact (pin' b hb o e).2
      have hl8 : (wipe σ (own.map (·.2))).length = σ8.length := by rw [← hw8, wipe_length]
      have hk8 : ∀ (j : Nat) v, (wipe σ (own.map (·.2)))[j]? = some (some v) → σ8[j]? = some (some v) := fun j v e => by
        rw [← hw8] at e
        exact (wipe_some e).1
      have hk9 : ∀ (j : Nat) v, (wipe σ (own.map (·.2)))[j]? = some (some v) → (wipe σ8 vs1)[j]? = some (some v) := fun j v e => by
        rw [← hw8] at e
        obtain ⟨e1, e2⟩ := wipe_some e
        rw [wipe_out fun z => e2 (hv j z)]
        exact e1
      cases b with
      | false =>
        simp only [Bool.false_eq_true, if_false] at q9 ⊢
        exact fin I9 hl8 hk8 q9
      | true =>
        simp only [if_true] at q9 ⊢
        refine thnF (pi1.run _ s9 σ8 H9 _ I9 q9) fun xv s10 hx => thnF hx fun itv s11 h11 => ?_
        obtain ⟨it1, fp1, tn1, J1, H11, e1, I11, T1, st11, f11, W1, ⟨m1, w1⟩, turn1⟩ := h11
        subst e1
        -- the inner loop
        have stat1 : ∀ {H' : Hp}, (∀ b ∈ fp1, H' b = none) → ∀ b ∈ fp1, FpOk (X.blk s3 H3 scope ce fp) ([] ++ pinsAt fp s7.heap) H' b := fun hn b hb => ⟨hn b hb, (f11 b hb).2⟩
        have loop1 : codeAny (model X.prog X.w) X.A (.compLoop (.DictComp kx vx [⟨tg, iter, ifs, 0⟩, ⟨tg1, iter1, ifs1, 0⟩] scope pos) 1 (.ref it1) (.ref D) ce)
            (fun r s' => match r with
              | .ok _ => ∃ m, m < n ∧ ∃ i H', Inv (X.blk s3 H3 scope ce fp) [] (wipe σ (own.map (·.2))) H' s' ∧ tn i s'.heap ∧ (∀ b ∈ fp, H' b = none) ∧ W i m H'
              | .error _ => False) s11 := by
          refine compLoopD2_in (fun k s' => ∃ j H', Inv (X.blk s3 H3 scope ce fp) ([] ++ pinsAt fp s7.heap) (wipe σ8 vs1) H' s' ∧ tn1 j s'.heap ∧ (∀ b ∈ fp1, H' b = none) ∧ W1 j k H') ?_ m1 ⟨0, H11, I11.weak (wipe_length _ _) (fun j v e => (wipe_some e).1), st11, fun b hb => (f11 b hb).1, w1⟩
          rintro k s12 ⟨j, H12, I12, st12, n12, w12⟩
          rcases turn1 j k H12 w12 with ⟨stop1, nx1⟩ | ⟨go1, Nx1, hNx1, step1⟩
          · refine thnF (T1.done (X.blk s3 H3 scope ce fp) rfl rfl rfl hc j _ s12 (wipe σ8 vs1) H12 (fun _ _ => False) I12 (stat1 n12) st12 stop1) fun r s13 ⟨hr, I13⟩ => ?_
            subst hr
            exact fin I13 (hl8.trans (wipe_length σ8 vs1).symm) hk9 nx1
          · refine thnF (T1.item (X.blk s3 H3 scope ce fp) rfl rfl rfl hc j _ s12 (wipe σ8 vs1) H12 (fun _ _ => False) I12 (stat1 n12) st12 go1) fun r s13 ⟨u1, hr, h13⟩ => ?_
            subst hr
            refine thnF h13 fun _ s14 ⟨x1, H14, I14, r14, y14, st14, n14⟩ => ?_
            have I14' := I14.pinned (stat1 n14) (T1.obj _ _ st14)
            refine thnF (pg1.run _ s14 (wipe σ8 vs1) H14 x1 u1 _ I14' r14 (step1 x1 H14 y14)) fun _ s15 ⟨σ15, H15, I15, hw15, q15⟩ => ?_
            refine thnF (pt1.run _ s15 σ15 H15 _ I15 q15) fun b1 s16 ⟨H16, I16, q16⟩ => ?_
            have fin1 : ∀ {s' : Shared} {H' : Hp}, Inv (X.blk s3 H3 scope ce fp) (([] ++ pinsAt fp s7.heap) ++ pinsAt fp1 s14.heap) σ15 H' s' → Nx1 H' → ∃ m, m < k ∧ ∃ j H', Inv (X.blk s3 H3 scope ce fp) ([] ++ pinsAt fp s7.heap) (wipe σ8 vs1) H' s' ∧ tn1 j s'.heap ∧ (∀ b ∈ fp1, H' b = none) ∧ W1 j m H' := fun {s' H'} I' nx => by
              obtain ⟨m', hm, w'⟩ := hNx1 H' nx
              have pin' : ∀ b ∈ fp1, ∀ o, s14.heap.get? b = some o → s'.heap.get? b = some o ∧ H' b = none := fun b hb o e =>
                let z := I'.pin (b, o) (List.mem_append_right _ (List.mem_append_right _ (mem_pinsAt hb e)))
                ⟨z.1, z.2.1⟩
              refine ⟨m', hm, j + 1, H', I'.unpinned.weak (by rw [← hw15, wipe_length]) (fun j v e => by rw [← hw15] at e; exact (wipe_some e).1), T1.keep _ _ _ st14 fun b hb o e => (pin' b hb o e).1, fun b hb => ?_, w'⟩
              obtain ⟨o, e, _⟩ := T1.obj _ _ st14 b hb
              exact (pin' b hb o e).2
            cases b1 with
            | false =>
              simp only [Bool.false_eq_true, if_false] at q16 ⊢
              exact fin1 I16 q16
            | true =>
              simp only [if_true] at q16 ⊢
              refine thnF (pk.run _ s16 σ15 H16 _ I16 q16) fun z s17 ⟨yk, H17, I17, r17, q17⟩ => ?_
              refine thnF (pe.run _ s17 σ15 H17 _ I17 q17) fun z2 s18 ⟨yv, H18, I18, r18, kvs, k, bq, ek, hb18, hD18, hz18, nx⟩ => ?_
              subst ek
              exact d_dictSetT (X := X.blk s3 H3 scope ce fp) hu I18 hD18 hz18 hb18 r17 r18 fun s19 I19 => fin1 I19 nx
        exact compStartD1_ok loop1 (T1.self X.A 0 _ _ _ st11 loop1)
  exact codeAny_compStart_dict loop (T.self X.A 0 _ _ _ st4 loop)
/-- as a value -/
theorem pe_dc2 {kx vx tg iter tg1 iter1 : Expr} {ifs ifs1 : List Expr} {scope : Scope} {own : List (Str × Nat)} {vs1 : List Nat} {pos : Pos} {wi wi1 : TI} {g g1 : TG} {tt tt1 : TT} {tk tv : TE} (hu : X.A.units + 1 < cLine) (hc : X.calm = true) (hN : X.N.Nodup) (hi : PI X tg iter wi) (ok : BlkOk X.N X.env.scope scope own) (hv : ∀ i ∈ vs1, i ∈ own.map (·.2))
    (hg : ∀ (s : Shared) (H : Hp) (C : Addr) (cl : List (Str × Addr)) (fp : List Addr), PG (X.blk s H scope (compEnvC scope cl C X.env) fp) tg g) (ht : ∀ (s : Shared) (H : Hp) (C : Addr) (cl : List (Str × Addr)) (fp : List Addr), PTs (X.blk s H scope (compEnvC scope cl C X.env) fp) ifs tt)
    (hi1 : ∀ (s : Shared) (H : Hp) (C : Addr) (cl : List (Str × Addr)) (fp : List Addr), PI (X.blk s H scope (compEnvC scope cl C X.env) fp) tg1 iter1 wi1)
    (hg1 : ∀ (s : Shared) (H : Hp) (C : Addr) (cl : List (Str × Addr)) (fp : List Addr), PG (X.blk s H scope (compEnvC scope cl C X.env) fp) tg1 g1) (ht1 : ∀ (s : Shared) (H : Hp) (C : Addr) (cl : List (Str × Addr)) (fp : List Addr), PTs (X.blk s H scope (compEnvC scope cl C X.env) fp) ifs1 tt1)
    (hk : ∀ (s : Shared) (H : Hp) (C : Addr) (cl : List (Str × Addr)) (fp : List Addr), PE (X.blk s H scope (compEnvC scope cl C X.env) fp) kx tk)
    (he : ∀ (s : Shared) (H : Hp) (C : Addr) (cl : List (Str × Addr)) (fp : List Addr), PE (X.blk s H scope (compEnvC scope cl C X.env) fp) vx tv) (hs : ∀ x, foldedSetIterable iter X.env x = pure x := by intro _; rfl) (hs1 : ∀ env x, foldedSetIterable iter1 env x = pure x := by intro _ _; rfl) :
    PE X (.DictComp kx vx [⟨tg, iter, ifs, 0⟩, ⟨tg1, iter1, ifs1, 0⟩] scope pos) (tDc2 wi g tt wi1 g1 tt1 tk tv (own.map (·.2)) vs1) := by
  refine ⟨fun pins s σ H Q I h => ?_⟩
  rw [arm_eval_DictComp]
  refine dc2_core hu hc hN I hi ok hv hg ht hk he hs hi1 hg1 ht1 hs1 h fun D C s' m H' I' q hn f => ⟨m, hn, fun h'' sb => ?_⟩
  obtain ⟨f0, f1, f2, f3, f4, f5⟩ := f
  exact ⟨.ref D, H', I'.turned (t' := s'.toks) (fun b o hb e => (sb.2 b hb).trans e) f0 f1 f3 f4 f5, rfl, q⟩
theorem ps_setDc2 {i : Nat} {y : Str} {py : Pos} {kx vx tg iter tg1 iter1 : Expr} {ifs ifs1 : List Expr} {scope : Scope} {own : List (Str × Nat)} {vs1 : List Nat} {pos spos : Pos} {wi wi1 : TI} {g g1 : TG} {tt tt1 : TT} {tk tv : TE} (hu : X.A.units + 1 < cLine) (hc : X.calm = true) (hN : X.N.Nodup) (hy : X.N[i]? = some y) (hyl : X.env.scope.names.lookup y = some .local)
    (hsw : swapsWith (.DictComp kx vx [⟨tg, iter, ifs, 0⟩, ⟨tg1, iter1, ifs1, 0⟩] scope pos) (some (.Name y py)) spos.line X.env = pure true) (hi : PI X tg iter wi) (ok : BlkOk X.N X.env.scope scope own) (hv : ∀ i ∈ vs1, i ∈ own.map (·.2))
    (hg : ∀ (s : Shared) (H : Hp) (C : Addr) (cl : List (Str × Addr)) (fp : List Addr), PG (X.blk s H scope (compEnvC scope cl C X.env) fp) tg g) (ht : ∀ (s : Shared) (H : Hp) (C : Addr) (cl : List (Str × Addr)) (fp : List Addr), PTs (X.blk s H scope (compEnvC scope cl C X.env) fp) ifs tt)
    (hi1 : ∀ (s : Shared) (H : Hp) (C : Addr) (cl : List (Str × Addr)) (fp : List Addr), PI (X.blk s H scope (compEnvC scope cl C X.env) fp) tg1 iter1 wi1)
    (hg1 : ∀ (s : Shared) (H : Hp) (C : Addr) (cl : List (Str × Addr)) (fp : List Addr), PG (X.blk s H scope (compEnvC scope cl C X.env) fp) tg1 g1) (ht1 : ∀ (s : Shared) (H : Hp) (C : Addr) (cl : List (Str × Addr)) (fp : List Addr), PTs (X.blk s H scope (compEnvC scope cl C X.env) fp) ifs1 tt1)
    (hk : ∀ (s : Shared) (H : Hp) (C : Addr) (cl : List (Str × Addr)) (fp : List Addr), PE (X.blk s H scope (compEnvC scope cl C X.env) fp) kx tk)
    (he : ∀ (s : Shared) (H : Hp) (C : Addr) (cl : List (Str × Addr)) (fp : List Addr), PE (X.blk s H scope (compEnvC scope cl C X.env) fp) vx tv) (hs : ∀ x, foldedSetIterable iter X.env x = pure x := by intro _; rfl) (hs1 : ∀ env x, foldedSetIterable iter1 env x = pure x := by intro _ _; rfl) :
    PS X (.Assign [.Name y py] (.DictComp kx vx [⟨tg, iter, ifs, 0⟩, ⟨tg1, iter1, ifs1, 0⟩] scope pos) spos) (tAsg (tDc2 wi g tt wi1 g1 tt1 tk tv (own.map (·.2)) vs1) (gName i)) := by
  refine ⟨fun pins s σ H D I h => ?_⟩
  rw [exec_Assign_Name_used _ _ _ _ hsw]
  refine wpAny_bind (wpAny_standAt (wpAny_bind ?_))
  show wpAny _ X.A (do let _ ← comprehension (.DictComp kx vx [⟨tg, iter, ifs, 0⟩, ⟨tg1, iter1, ifs1, 0⟩] scope pos) scope X.env (firstIterPos [⟨tg, iter, ifs, 0⟩, ⟨tg1, iter1, ifs1, 0⟩] pos) newDict false (eval iter X.env) (some (assign (.Name y py) X.env))) _ _ s
  have h : tDc2 wi g tt wi1 g1 tt1 tk tv (own.map (·.2)) vs1 σ H (fun x H1 => gName i x σ H1 D.nx) := h
  refine wpAny_bind (thn (dc2_core (Qf := fun _ s' => SP X pins D .next s') hu hc hN I hi ok hv hg ht hk he hs hi1 hg1 ht1 hs1 h fun L C s' m H' I' q hn f => ?_) fun _ s' hq => wpAny_pure (wpAny_pure hq))
  show wpAny _ _ (assign (.Name y py) X.env (.ref L)) _ _ _
  refine wpAny_assign_Name (store_ok2 (v := V.ref L) I' hN hy (.inl hyl) rfl (fun s2 I2 ⟨a, sb, ha⟩ => ?_) (.inr hyl))
  obtain ⟨f0, f1, f2, f3, f4, f5⟩ := f
  have haC : C ≠ a := by
    rcases ha with z | z
    · rw [z]; exact f1
    · exact fun e => f4 y a z e.symm
  refine ⟨m, hn.sameBut sb haC, fun h3 sb3 => ?_⟩
  exact ⟨_, H', I2.turned (t' := s2.toks) (fun b o hb e => (sb3.2 b hb).trans e) f0 f1 f3 f4 f5, q⟩
end
end L2

/-! lists of the same things compared; counting comprehensions; dicts of points -/
namespace Ah
open PySem PySem.Spec PyProof.Rows L2 He
section
variable {X : Cx} {j : Nat}
/-- l != m, two lists of the very same things -/
def rNeSame : R2 := fun x y H Q => ∃ (a b : Addr) (xs : List Addr), x = .ref a ∧ y = .ref b ∧ H a = some (.lst (xs.map V.ref)) ∧ H b = some (.lst (xs.map V.ref)) ∧ Q (.bl false) H
theorem op_neSame (hr : Rm j X.A) : OpR X (compareOp .NotEq) rNeSame := by
  intro pins s σ H x y v u Q I rx ry h
  obtain ⟨a, b, xs, rfl, rfl, ha, hb, q⟩ := h
  cases (show v = Value.ref a from rx)
  cases (show u = Value.ref b from ry)
  have isl : ∀ (c : Addr), H c = some (.lst (xs.map V.ref)) → s.heap.IsList c (xs.map Value.ref).toArray := fun c hc => by
    obtain ⟨its, r, p, _⟩ := I.list (SqL.of hc)
    rw [map_unref r] at p
    exact p.isList
  have z := SeqAt.RcNeAt.lists (A := X.A) (e := fun _ => true) (isl a ha) (isl b hb) rfl (hu0 hr) fun i h1 h2 => SeqAt.EqAt.same _
  refine z X.prog X.w _ _ ?_
  have e : (!(List.range (xs.map Value.ref).toArray.size).all fun _ => true) = false := by simp
  rw [e]
  exact ⟨.bl false, H, I, rfl, q⟩
end
/-- how many things a comprehension keeps -/
theorem lc_count {K : Frag} {tl te : TE} {tt : TT} {σ : L2.St} {i : Nat} {H : Hp} {L : Addr} {xs : List V} {cs : List Bool} {Q : VK} (hL : H L = some (.lst xs)) (hc : cs.length = xs.length) (few : xs.length ≤ 1000000)
    (hl : ∀ Q', Q' (.ref L) H → tl σ H Q')
    (ht : ∀ (j : Nat) x b G Q', xs[j]? = some x → cs[j]? = some b → Same H G → (∀ G', Same G G' → Q' b G') → tt ((wipe σ [i]).set i (some x)) G Q')
    (he : ∀ x G Q', Q' x G → te ((wipe σ [i]).set i (some x)) G Q')
    (hw : ∀ x, wipe ((wipe σ [i]).set i (some x)) [i] = wipe σ [i])
    (q : ∀ H' D ys, Same H H' → H D = none → H' D = some (.lst ys) → ys.length = cs.count true → Q (.ref D) H') : tLc (iList K tl) (gName i) tt te [i] σ H Q := by
  refine hl _ ⟨L, rfl, ⟨_, SqL.of hL⟩, fun D hD => ?_⟩
  refine lc_it (walk_list (xs := xs)) (fun j H2 => (∃ ys, H2 D = some (.lst ys) ∧ ys.length = (cs.take j).count true ∧ ys.length ≤ j) ∧ Same H H2) ?_ (fun j H2 _ h => SqL.of (h.2 _ _ hL)) ?_ ?_
  · exact ⟨⟨[], upd_same, by simp, Nat.le_refl _⟩, Same.upd (Same.refl _) hD⟩
  · rintro j y H2 H3 hj ⟨⟨ys, hb, e, le⟩, s⟩ ⟨rfl, hy⟩
    have hj' : j < cs.length := by omega
    have et : cs.take (j + 1) = cs.take j ++ [cs[j]] := by
      rw [List.take_add_one, List.getElem?_eq_getElem hj']
      rfl
    refine ⟨hw _, ht j y cs[j] H3 _ hy (List.getElem?_eq_getElem hj') s fun G' sG => ?_⟩
    cases eb : cs[j] with
    | false =>
      rw [if_neg (by decide)]
      refine ⟨⟨ys, sG _ _ hb, ?_, by omega⟩, s.trans sG⟩
      rw [et, List.count_append, eb, e]
      simp
    | true =>
      rw [if_pos rfl]
      refine he y G' _ ⟨ys, sG _ _ hb, by rw [sizeLine_eq]; omega, ⟨ys ++ [y], upd_same, ?_, ?_⟩, fun b o hbo => ?_⟩
      · rw [et, List.count_append, eb, List.length_append, e]
        simp
      · rw [List.length_append]
        simp
        omega
      · rw [upd_ne (ne_of_none hbo hD)]
        exact (s.trans sG) _ _ hbo
  · rintro H2 ⟨⟨ys, hb, e, le⟩, s⟩
    rw [← hc, List.take_length] at e
    exact q H2 D ys s hD hb e
theorem putK_keys {κ : Type} [DecidableEq κ] (kvs : List (κ × V)) (k : κ) (v : V) : (putK kvs k v).map (·.1) = if k ∈ kvs.map (·.1) then kvs.map (·.1) else kvs.map (·.1) ++ [k] := by
  by_cases h : k ∈ kvs.map (·.1)
  · rw [if_pos h]
    obtain ⟨p, hp, rfl⟩ := List.mem_map.mp h
    have ha : kvs.any (fun x => x.1 = p.1) = true := List.any_eq_true.mpr ⟨p, hp, by simp⟩
    unfold putK
    simp only [ha, if_true]
    rw [List.map_map]
    apply List.map_congr_left
    intro x hx
    simp only [Function.comp_apply]
    split
    · rename_i e2
      simp_all
    · rfl
  · rw [if_neg h]
    have ha : kvs.any (fun x => x.1 = k) = false := by
      rw [Bool.eq_false_iff]
      intro z
      obtain ⟨x, hx, e⟩ := List.any_eq_true.mp z
      exact h (List.mem_map.mpr ⟨x, hx, by simpa using e⟩)
    unfold putK
    simp [ha]
theorem ptKey_inj {p q : Pt} (h : ptKey p = ptKey q) : p = q := by
  obtain ⟨n, z⟩ := p
  obtain ⟨m, y⟩ := q
  simp only [ptKey, List.cons.injEq, Sum.inl.injEq, Sum.inr.injEq, and_true] at h
  rw [h.1, h.2]
theorem ptKey_mem {p : Pt} {us : List Pt} : ptKey p ∈ us.map ptKey ↔ p ∈ us := by
  constructor
  · intro h
    obtain ⟨q, hq, e⟩ := List.mem_map.mp h
    rw [← ptKey_inj e]
    exact hq
  · exact fun h => List.mem_map.mpr ⟨p, h, rfl⟩
/-- a dict whose keys are the points put so far -/
def Dk (D : Addr) (H : Hp) (put : List Pt) (H2 : Hp) : Prop := ∃ (kvs : List (List Key × V)) (us : List Pt), H2 D = some (.dT kvs) ∧ kvs.map (·.1) = us.map ptKey ∧ us.Nodup ∧ (∀ p, p ∈ us ↔ p ∈ put) ∧ us.length ≤ put.length ∧ Same H H2
theorem Dk.nil {D : Addr} {H : Hp} (hD : H D = none) : Dk D H [] (upd H D (.dT [])) := ⟨[], [], upd_same, rfl, List.nodup_nil, fun p => Iff.rfl, Nat.le_refl _, Same.upd (Same.refl _) hD⟩
theorem Dk.same {D : Addr} {H H2 H3 : Hp} {put : List Pt} (h : Dk D H put H2) (s : Same H2 H3) : Dk D H put H3 := by
  obtain ⟨kvs, us, h1, h2, h3, h4, h5, h6⟩ := h
  exact ⟨kvs, us, s _ _ h1, h2, h3, h4, h5, h6.trans s⟩
theorem Dk.put {D : Addr} {H H2 : Hp} {put : List Pt} {a : Addr} {p : Pt} {v : V} (h : Dk D H put H2) (hD : H D = none) (few : put.length ≤ 100000) (ha : PtAt H2 a p) :
    ∃ kvs k bq, V.ref a = .ref bq ∧ H2 bq = some (.tup (List.map kV k)) ∧ H2 D = some (.dT kvs) ∧ kvs.length < sizeLine ∧ Dk D H (put ++ [p]) (upd H2 D (.dT (putK kvs k v))) := by
  obtain ⟨kvs, us, h1, hks, hnd, hm, hlen, s⟩ := h
  have hl : kvs.length = us.length := by
    have z := congrArg List.length hks
    simpa using z
  refine ⟨kvs, ptKey p, a, rfl, ha, h1, by rw [sizeLine_eq]; omega, ?_⟩
  have sm : Same H (upd H2 D (.dT (putK kvs (ptKey p) v))) := fun b o hbo => by
    rw [upd_ne (ne_of_none hbo hD)]
    exact s _ _ hbo
  by_cases hpu : p ∈ us
  · refine ⟨_, us, upd_same, ?_, hnd, fun r => ?_, by rw [List.length_append]; simp; omega, sm⟩
    · rw [putK_keys, hks, if_pos (ptKey_mem.mpr hpu)]
    · rw [hm r, List.mem_append, List.mem_singleton]
      constructor
      · exact .inl
      · rintro (h | rfl)
        · exact h
        · exact (hm r).mp hpu
  · refine ⟨_, us ++ [p], upd_same, ?_, ?_, fun r => ?_, by simp only [List.length_append, List.length_singleton]; omega, sm⟩
    · rw [putK_keys, hks, if_neg (fun h => hpu (ptKey_mem.mp h)), List.map_append]
      rfl
    · rw [List.nodup_append]
      refine ⟨hnd, by simp, fun x hx y hy => ?_⟩
      rw [List.mem_singleton] at hy
      subst hy
      exact fun e => hpu (e ▸ hx)
    · rw [List.mem_append, List.mem_append, hm r]
theorem two_len : ∀ es : List (Pt × Pt), (es.flatMap fun e => [e.1, e.2]).length = 2 * es.length
  | [] => rfl
  | e :: r => by
    have := two_len r
    simp only [List.flatMap_cons, List.length_append, List.length_cons, List.length_nil]
    omega
/-- {p: .. for x in list for p in (two points)} -/
theorem dc2_pts {K : Frag} {tl tp tk tv : TE} {σ : L2.St} {i j : Nat} {H : Hp} {L : Addr} {xs : List V} {es : List (Pt × Pt)} {w : V} {Q : VK} (hL : H L = some (.lst xs)) (hlen : es.length = xs.length) (few : xs.length ≤ 10000)
    (hl : ∀ Q', Q' (.ref L) H → tl σ H Q')
    (hp : ∀ (n : Nat) x e G Q', xs[n]? = some x → es[n]? = some e → Same H G → (∀ r a b G', Same G G' → G r = none → G' r = some (.tup [.ref a, .ref b]) → PtAt G' a e.1 → PtAt G' b e.2 → Q' (.ref r) G') → tp ((wipe σ [i, j]).set i (some x)) G Q')
    (hk : ∀ x a G Q', Q' (.ref a) G → tk ((wipe ((wipe σ [i, j]).set i (some x)) [j]).set j (some (.ref a))) G Q')
    (hv : ∀ x a G Q', Q' w G → tv ((wipe ((wipe σ [i, j]).set i (some x)) [j]).set j (some (.ref a))) G Q')
    (hw : ∀ x, wipe ((wipe σ [i, j]).set i (some x)) [i, j] = wipe σ [i, j])
    (hw2 : ∀ x y, wipe ((wipe ((wipe σ [i, j]).set i (some x)) [j]).set j (some y)) [j] = wipe ((wipe σ [i, j]).set i (some x)) [j])
    (q : ∀ H' D (kvs : List (List Key × V)) (us : List Pt), Same H H' → H D = none → H' D = some (.dT kvs) → kvs.map (·.1) = us.map ptKey → us.Nodup → (∀ p, p ∈ us ↔ p ∈ es.flatMap fun e => [e.1, e.2]) → us.length ≤ 2 * es.length → Q (.ref D) H') :
    tDc2 (iList K tl) (gName i) tYes (iTup K tp) (gName j) tYes tk tv [i, j] [j] σ H Q := by
  refine hl _ ⟨L, rfl, ⟨_, SqL.of hL⟩, fun D hD => ?_⟩
  have wk := walk_list (K := K) (a := L) (xs := xs)
  let fl : Nat → List Pt := fun n => (es.take n).flatMap fun e => [e.1, e.2]
  have fl1 : ∀ {n : Nat} {e : Pt × Pt}, es[n]? = some e → fl (n + 1) = fl n ++ [e.1, e.2] := fun {n e} h => by
    show (es.take (n + 1)).flatMap _ = _
    rw [List.take_add_one, h]
    simp [fl]
  have fll : ∀ n, (fl n).length ≤ 2 * n := fun n => by
    show ((es.take n).flatMap _).length ≤ _
    rw [two_len]
    have : (es.take n).length ≤ n := List.length_take_le _ _
    omega
  refine ⟨fun n m H2 => m = xs.length - n ∧ n ≤ xs.length ∧ Dk D H (fl n) H2, ⟨xs.length, by simp, Nat.zero_le _, .nil hD⟩, ?_⟩
  rintro n m H2 ⟨rfl, hn, dk⟩
  have s2 : Same H H2 := by
    obtain ⟨_, _, _, _, _, _, _, s⟩ := dk
    exact s
  have hsq : SqL K H2 L xs := SqL.of (s2 _ _ hL)
  by_cases hlt : n < xs.length
  · refine .inr ⟨wk.goes n H2 hlt hsq, fun H' => Dk D H (fl (n + 1)) H', fun H' p' => ⟨xs.length - (n + 1), by omega, rfl, hlt, p'⟩, fun x H3 y => ?_⟩
    obtain ⟨rfl, hy⟩ := wk.yields n H2 x H3 hlt hsq y
    have he : es[n]? = some es[n] := List.getElem?_eq_getElem (by omega)
    refine ⟨hw _, ?_⟩
    dsimp only [tYes]
    rw [if_pos rfl]
    refine hp n x es[n] H3 _ hy he s2 fun r a b G sG nr hr ha hb => ?_
    refine ⟨r, rfl, ⟨_, SqT.of hr⟩, ?_⟩
    have wt := walk_tup (K := K) (a := r) (xs := [.ref a, .ref b])
    let mid : Nat → List Pt := fun k => fl n ++ [es[n].1, es[n].2].take k
    refine ⟨fun k m' H4 => m' = 2 - k ∧ k ≤ 2 ∧ Dk D H (mid k) H4 ∧ Tk G H4, ⟨2, rfl, Nat.zero_le _, ?_, .same (Same.refl _)⟩, ?_⟩
    · show Dk D H (fl n ++ []) G
      rw [List.append_nil]
      exact dk.same sG
    rintro k m' H4 ⟨rfl, hk2, dk4, tk4⟩
    have hr4 : SqT K H4 r [.ref a, .ref b] := SqT.of (tk4 _ _ hr)
    by_cases hk1 : k < 2
    · refine .inr ⟨wt.goes k H4 hk1 hr4, fun H' => Dk D H (mid (k + 1)) H' ∧ Tk G H', fun H' p' => ⟨2 - (k + 1), by omega, rfl, hk1, p'⟩, fun y H5 yy => ?_⟩
      obtain ⟨rfl, hy5⟩ := wt.yields k H4 y H5 hk1 hr4 yy
      have key : ∃ (c : Addr) (s : Pt), y = .ref c ∧ PtAt H5 c s ∧ mid (k + 1) = mid k ++ [s] := by
        rcases (show k = 0 ∨ k = 1 by omega) with rfl | rfl
        · simp at hy5
          exact ⟨a, es[n].1, hy5.symm, tk4 _ _ ha, by simp [mid]⟩
        · simp at hy5
          exact ⟨b, es[n].2, hy5.symm, tk4 _ _ hb, by simp [mid]⟩
      obtain ⟨c, s, rfl, hc, em⟩ := key
      refine ⟨hw2 _ _, ?_⟩
      dsimp only [tYes]
      rw [if_pos rfl]
      refine hk x c H5 _ (hv x c H5 _ ?_)
      have lm : (mid k).length ≤ 100000 := by
        have := fll n
        simp only [mid, List.length_append, List.length_take]
        omega
      obtain ⟨kvs, kk, bq, e1, e2, e3, e4, e5⟩ := dk4.put (v := w) hD lm hc
      refine ⟨kvs, kk, bq, e1, e2, e3, e4, by rw [em]; exact e5, tk4.trans (Tk.upd e3 (fun xs z => by cases z))⟩
    · have ek : k = 2 := by omega
      subst ek
      refine .inl ⟨wt.stops H4 hr4, ?_⟩
      have : mid 2 = fl (n + 1) := by
        rw [fl1 he]
        rfl
      rw [← this]
      exact dk4
  · have e : n = xs.length := by omega
    subst e
    obtain ⟨kvs, us, h1, h2, h3, h4, h5, h6⟩ := dk
    have et : fl xs.length = es.flatMap fun e => [e.1, e.2] := by
      show (es.take xs.length).flatMap _ = _
      rw [← hlen, List.take_length]
    rw [et] at h4 h5
    have hl2 : us.length ≤ 2 * es.length := by
      rw [two_len] at h5
      exact h5
    exact .inl ⟨wk.stops H2 hsq, q H2 D kvs us h6 hD h1 h2 h3 h4 hl2⟩
/-- .. the list made on the way -/
theorem dc2_ptsM {K : Frag} {tl tp tk tv : TE} {σ : L2.St} {i j : Nat} {H : Hp} {xs : List V} {es : List (Pt × Pt)} {w : V} {Q : VK} (hlen : es.length = xs.length) (few : xs.length ≤ 10000)
    (hl : ∀ Q' : VK, (∀ G L, Same H G → G L = some (.lst xs) → Q' (.ref L) G) → tl σ H Q')
    (hp : ∀ (n : Nat) x e G Q', xs[n]? = some x → es[n]? = some e → Same H G → (∀ r a b G', Same G G' → G r = none → G' r = some (.tup [.ref a, .ref b]) → PtAt G' a e.1 → PtAt G' b e.2 → Q' (.ref r) G') → tp ((wipe σ [i, j]).set i (some x)) G Q')
    (hk : ∀ x a G Q', Q' (.ref a) G → tk ((wipe ((wipe σ [i, j]).set i (some x)) [j]).set j (some (.ref a))) G Q')
    (hv : ∀ x a G Q', Q' w G → tv ((wipe ((wipe σ [i, j]).set i (some x)) [j]).set j (some (.ref a))) G Q')
    (hw : ∀ x, wipe ((wipe σ [i, j]).set i (some x)) [i, j] = wipe σ [i, j])
    (hw2 : ∀ x y, wipe ((wipe ((wipe σ [i, j]).set i (some x)) [j]).set j (some y)) [j] = wipe ((wipe σ [i, j]).set i (some x)) [j])
    (q : ∀ H' D (kvs : List (List Key × V)) (us : List Pt), Same H H' → H D = none → H' D = some (.dT kvs) → kvs.map (·.1) = us.map ptKey → us.Nodup → (∀ p, p ∈ us ↔ p ∈ es.flatMap fun e => [e.1, e.2]) → us.length ≤ 2 * es.length → Q (.ref D) H') :
    tDc2 (iList K tl) (gName i) tYes (iTup K tp) (gName j) tYes tk tv [i, j] [j] σ H Q := by
  refine hl _ fun G L s hL => ?_
  have z : tDc2 (iList K (fun σ H Q => Q (.ref L) H)) (gName i) tYes (iTup K tp) (gName j) tYes tk tv [i, j] [j] σ G Q :=
    dc2_pts hL hlen few (fun Q' q' => q') (fun n x e G1 Q' h1 h2 s1 q' => hp n x e G1 Q' h1 h2 (s.trans s1) q') hk hv hw hw2 fun H' D kvs us s' n h => q H' D kvs us (s.trans s') (s.free n) h
  exact z
end Ah

/-! errors held as values -/
namespace PySem.HandSPX
open PySem PySem.W PySem.Calls PyProof.Rows
section
variable {M : Model} {prog : Program} {w : World} {A : Around} {E : Value → Shared → Prop} {R : Result → Shared → Prop} {h : Heap} {g : Array GenState} {d : Drawn} {t : Nat} {os : OsState}
variable {nm q : Str} {C N : Addr} {bs bm bmB : List Value} {hdct : Bool} {sn : List Str} {sub : List Value} {ab : Bool} {col : Option Bool} {dd : Option Addr} {k0 k1 k2 k3 k5 : Option Value} {B newId initId : String}
/-- __new__'s look at the call, keywords among the arguments -/
theorem check_newK (F : ExcBaseFacts B newId initId bmB) (hT : ∀ X : String, bm.contains (.type X) = bmB.contains (.type X)) {kw : List (Str × Value)} {Q : Unit → Shared → Prop}
    (hC : h.get? C = some (excClassObj nm q C N bs bm hdct sn sub ab col dd k0 k1 k2 k3 k5 newId)) (hq : Q () ⟨h, g, d, t, os⟩) : wpAny M A (checkBuiltinCall newId ⟨[.ref C], kw⟩) Q E ⟨h, g, d, t, os⟩ := by
  have hcont : (Value.ref C :: bm).contains (.type B) = true := by rw [List.contains_cons, hT, F.hasB, Bool.or_true]
  have hstar := F.noStar
  simp only [checkBuiltinCall, F.newKind, F.newSplit, F.newRow]
  repeat (first | refine wpAny_loadPart_at hC ?_ | (refine wpAny_isSubtype_exc hC ?_; rw [hcont]) | refine wpAny_staticBase_exc hC ?_ | refine wpAny_madeBy_exc hC ?_ | simp only [bne_self_eq_false, Bool.false_eq_true, if_false] | wp_step)
  exact hq
theorem newK (F : ExcBaseFacts B newId initId bmB) (hT : ∀ X : String, bm.contains (.type X) = bmB.contains (.type X)) {kw : List (Str × Value)}
    (hC : h.get? C = some (excClassObj nm q C N bs bm hdct sn sub ab col dd k0 k1 k2 k3 k5 newId))
    (hq : R (.ok (.ret (.ref (h.objs.size + 1)))) ⟨(h.push (W.kdv_tup [])).push (excO C h.objs.size), g, d, t, os⟩) :
    codeAny (model prog w) A (.builtin newId ⟨[.ref C], kw⟩) R ⟨h, g, d, t, os⟩ := by
  have hends := F.ends
  have hrest : ([] : List Value).length ≤ sizeLine := Nat.zero_le _
  have hcB : (Value.ref C :: bm).contains (.type B) = true := by rw [List.contains_cons, hT, F.hasB, Bool.or_true]
  have hcA : (Value.ref C :: bm).contains (.type "AttributeError") = false := by rw [List.contains_cons, hT, F.noAttr]; rfl
  have hcN : (Value.ref C :: bm).contains (.type "NameError") = false := by rw [List.contains_cons, hT, F.noName]; rfl
  refine codeAny_builtinAt F.entry ?_
  unfold Builtin.«BaseException.__new__»
  refine wpAt_bind ?_
  show wpAt _ _ _ (stack >>= _) _ _ _
  refine wpAt_bind (wpAt_stack fun p below => wpAt_of_wpAny ?_)
  wp_walk
  refine wpAt_of_wpAny ?_
  rw [F.owner]
  repeat (first | with_reducible refine wpAny_madeHere_exc F.canon hC ?_ | with_reducible refine wpAny_loadPart_at hC ?_ | (with_reducible refine wpAny_isSubtype_exc hC ?_; first | rw [hcB] | rw [hcA] | rw [hcN]) | wp_step)
  show R _ _
  rw [Heap.size_push]
  exact hq
theorem type_callK (F : ExcBaseFacts B newId initId bmB) (hT : ∀ X : String, bm.contains (.type X) = bmB.contains (.type X)) {kw : List (Str × Value)} {fI : Addr} {Q : Fin → Shared → Prop}
    (hC : h.get? C = some (excClassObj nm q C N bs bm hdct sn sub ab col dd k0 k1 k2 k3 k5 newId))
    (hi : W.Looks (model prog w) h (typeLookup (.ref C) "__init__") (some (.ref fI))) (hb : ∀ self, W.Looks (model prog w) h (bindSpecial (.ref fI) self) (.ref fI, [self]))
    (hq : codeAny (model prog w) A (.call (.ref fI) ⟨[.ref (h.objs.size + 1)], kw⟩)
      (fun r s' => match r with | .ok (.ret v) => v = .none ∧ Q (.done (.ret (.ref (h.objs.size + 1)))) s' | .ok _ => False | .error e => E e s')
      ⟨(h.push (W.kdv_tup [])).push (excO C h.objs.size), g, d, t, os⟩) :
    wpAny (model prog w) A (Builtin.«type.__call__» ⟨[.ref C], kw⟩) Q E ⟨h, g, d, t, os⟩ := by
  repeat (first | with_reducible refine wpAny_loadPart_at hC ?_ | with_reducible refine wpAny_madeBy_exc hC ?_ | wp_step)
  refine codeAny_call_builtin_code (Code.quiet_builtin _ F.quiet) (check_newK F hT hC ?_)
  refine newK F hT hC ?_
  show wpAny _ _ _ _ _ _
  have k : ∀ b o, h.get? b = some o → ((h.push (W.kdv_tup [])).push (excO C h.objs.size)).get? b = some o := fun b o e => Heap.get?_push_of_some _ (Heap.get?_push_of_some _ e)
  have hC₁ := k _ _ hC
  have hget : ((h.push (W.kdv_tup [])).push (excO C h.objs.size)).get? (h.objs.size + 1) = some (excO C h.objs.size) := by heap_get
  have hcC : (Value.ref C :: bm).contains (.ref C) = true := by simp
  have i1 := hi.keeps k
  have b1 := (hb (.ref (h.objs.size + 1))).keeps k
  unfold isInstance
  repeat (first | with_reducible refine wpAny_loadPart_at hget ?_ | (with_reducible refine wpAny_isSubtype_exc hC₁ ?_; rw [hcC]) | wp_step)
  show wpAny _ _ (typeLookup (.ref C) _) _ _ _
  refine i1.at ?_
  refine wpAny_holding (wpAny_bind (b1.at ?_))
  refine wpAny_bind (wpAny_call (codeAny_mono hq fun r s' z => ?_))
  rcases r with e | (v | _ | _ | _) <;> first | exact z | exact z.elim | skip
  obtain ⟨rfl, z⟩ := z
  first
    | exact wpAny_pure (wpAny_pure z)
    | (wp_walk; exact z)
theorem call_ownK (F : ExcBaseFacts B newId initId bmB) (hT : ∀ X : String, bm.contains (.type X) = bmB.contains (.type X)) {kw : List (Str × Value)} {fI : Addr}
    (hC : h.get? C = some (excClassObj nm q C N bs bm hdct sn sub ab col dd k0 k1 k2 k3 k5 newId))
    (hi : W.Looks (model prog w) h (typeLookup (.ref C) "__init__") (some (.ref fI))) (hb : ∀ self, W.Looks (model prog w) h (bindSpecial (.ref fI) self) (.ref fI, [self]))
    (hq : codeAny (model prog w) (A.under (.builtin "type.__call__" ⟨[.ref C], kw⟩)) (.call (.ref fI) ⟨[.ref (h.objs.size + 1)], kw⟩) (W.InitBack (h.objs.size + 1) R)
      ⟨(h.push (W.kdv_tup [])).push (excO C h.objs.size), g, d, t, os⟩) :
    codeAny (model prog w) A (.call (.ref C) ⟨[], kw⟩) R ⟨h, g, d, t, os⟩ := by
  have f1 := tc_lookup
  have f2 := tc_bind (.ref C)
  have hTy : (⟨h, g, d, t, os⟩ : Shared).TypeIs (.ref C) "type" := ⟨_, hC, rfl⟩
  refine codeAny_of_tree ?_
  show wpAny _ _ (callAny (.ref C) _) _ _ _
  repeat (any_goals (first | assumption | with_reducible refine wpAny_loadPart_at hC ?_ | wp_step))
  refine ⟨rfl, ?_⟩
  refine codeAny_call_builtin_at (Code.quiet_builtin _ (by decide +kernel)) entry_typeCall (wpAny_check_type_call_sub hC (type_callK F hT hC hi hb ?_))
  refine codeAny_mono hq fun r s' z => ?_
  rcases r with e | (v | _ | _ | _) <;> exact z
end
end PySem.HandSPX
namespace Ah
open PySem PySem.Spec PyProof.Rows L2 He
/-- an error as a value: its class, its fields -/
def EvAt (H : Hp) (a C : Addr) (fs : List (Str × V)) : Prop := ∃ dx, H a = some (exo a C (some dx)) ∧ H dx = some (exd dx fs)
theorem EvAt.same {H H' : Hp} {a C : Addr} {fs : List (Str × V)} (h : EvAt H a C fs) (s : Same H H') : EvAt H' a C fs := by
  obtain ⟨dx, h1, h2⟩ := h
  exact ⟨dx, s _ _ h1, s _ _ h2⟩
/-- .. without fields -/
def EvN (H : Hp) (a C : Addr) : Prop := H a = some (ExO (.ref C) a)
def tMkV (C : Addr) (sp : Sp) (ta : TA) : TE := fun σ H Q => ta σ H fun vs H1 => vs.length ≤ 1000 ∧ ∀ a, H1 a = none → sp (.ref a :: vs) (upd H1 a (exo a C none)) (fun x H2 => x = .non ∧ Q (.ref a) H2) (fun _ _ _ => False)
/-- the def at f keeps sp when it is called with itself and keywords -/
structure FnUk (P : Program) (w : World) (K : Frag) (mg : Str → Option Value) (base : Heap) (k : Nat) (f : Addr) (ks : List Str) (sw : Bool) (sp : Sp) : Prop where
  ex : ∃ fd ps, FnOk P w K mg base (L2.CX P w) k f fd ps sp ∧ ∀ s (u : Value) (us : List Value), us.length = ks.length → BindsTo s fd ⟨[u], ks.zip us⟩ (ps.zip (u :: (if sw then us.reverse else us)))
theorem okUk {P : Program} {w : World} {K : Frag} {mg : Str → Option Value} {base : Heap} {N ps ks : List Str} {k : Nat} {sw : Bool} {sp : Sp} {d : DefG} (S : Stands K d) (h0 : d.dfl = []) (sc : FnScope N ps d.scope) (len : ∀ vs H Q E, sp vs H Q E → vs.length = ps.length)
    (hb : ∀ (kV doc pm : Value) (an : Option Addr) (cdv ct u : Value) (us : List Value), us.length = ks.length → bindArgs (PySem.W.fnOf d.name d.qual d.params d.body d.scope .none kV doc pm an cdv ct) ⟨[u], ks.zip us⟩ = pure (ps.zip (u :: (if sw then us.reverse else us))))
    (hbody : ∀ (cdv : Value) (A : Around) (outer : List Env) (s : Shared) (H : Hp) (vs : List V) (Q : VK) (E : XK), Room k (A.deeper (envOfC d.qual d.scope s.heap.objs.size (d.ad K) cdv)) → sp vs H Q E →
      ∃ t, PSs (cxOf (L2.CX P w) P w K mg base N d.qual d.scope (d.ad K) cdv A outer s H E) d.body t ∧ t { nx := fun _ H' => Q .non H', rt := Q } (L2.start N vs) H) : FnUk P w K mg base (k + 1) (d.ad K) ks sw sp := by
  obtain ⟨fd, F⟩ := S
  have e : d.dvs K = [] := by unfold DefG.dvs; rw [h0]; rfl
  rw [e] at F
  refine ⟨⟨fd, ps, F.ok sc len hbody, fun s u us hl => ?_⟩⟩
  obtain ⟨oc, od, dV, kV, doc, pm, an, cdv, ct, osl, rfl, lk, hcd, hdf, _⟩ := F.ex
  have hdV : dV = .none := by
    rcases hdf with ⟨_, z⟩ | ⟨z, _⟩
    · exact z
    · exact absurd rfl z
  subst hdV
  intro M A Q E z
  rw [hb kV doc pm an cdv ct u us hl]
  exact wpAny_pure z
theorem vals_app {xs ys : List V} {us vs : List Value} (h : Vals xs us) (g : Vals ys vs) : Vals (xs ++ ys) (us ++ vs) := by
  induction h with
  | nil => exact g
  | cons r _ ih => exact .cons r ih
theorem vals_rev {xs : List V} {us : List Value} (h : Vals xs us) : Vals xs.reverse us.reverse := by
  induction h with
  | nil => exact .nil
  | cons r _ ih =>
    rw [List.reverse_cons, List.reverse_cons]
    exact vals_app ih (.cons r .nil)
section
variable {X : Cx} {C : Str} {e : Expr} {es : List Expr} {ta : TA} {sp : Sp} {k j : Nat} {p pos : Pos} {kws : List Keyword} {ks : List Str} {sw : Bool}
/-- C(e, ..), an error as a value -/
theorem pe_mkV (T : ExcT X.K X.mg C) (F : FnU X.prog X.w X.K X.mg X.base k (ma X.K (ga X.K C) "__init__") sp) (hr : Rm j X.A) (ha : PA X (e :: es) ta) (hk : k + 1 ≤ j := by decide) (hg : Gl X C := by rfl)
    (hdb : (C == ("__debug__" : Str)) = false := by decide) (he : starEach (e :: es) X.env = (false, eval e X.env) :: starEach es X.env := by rfl) (hpl : (backTo pos (starEach es X.env)).any (·.1) = false := by rfl) :
    PE X (.Call (.Name C p) (e :: es) [] pos) (tMkV (ga X.K C) sp ta) := by
  obtain ⟨⟨fd, ps, F1, hb⟩⟩ := F
  refine ⟨fun pins s σ H Q I h => ?_⟩
  obtain ⟨b, nm, q, N, bs, sn, sub, ab, col, dd, k0, k1, k2, k3, k5, hC⟩ := T.o.cls
  refine wpAny_Call_Name_kw (ld_glob I hg T.g ?_ hdb)
  refine PySem.W.callWith_K (h₀ := X.base) I.ok.mod.kin T.o.kC (thn (ha.run pos pins s σ H _ I h) fun us s1 ⟨vs, H1, I1, r1, hz, q1⟩ => ⟨I1.kIn, ?_⟩) he hpl
  show wpAny _ _ (call (.ref (ga X.K C)) us) _ _ _
  obtain ⟨hp, g, dr, tk, os⟩ := s1
  have hsz : hp.objs.size ≤ hp.objs.size + 1 := Nat.le_succ _
  have hn : H1 (hp.objs.size + 1) = none := I1.hok.fresh hsz
  have hq := q1 (hp.objs.size + 1) hn
  have kk : ∀ b o, hp.get? b = some o → ((hp.push (PySem.W.kdv_tup us)).push (PySem.HandSPX.excO (ga X.K C) hp.objs.size)).get? b = some o := fun b o e => Heap.get?_push_of_some _ (Heap.get?_push_of_some _ e)
  have hget : ((hp.push (PySem.W.kdv_tup us)).push (PySem.HandSPX.excO (ga X.K C) hp.objs.size)).get? (hp.objs.size + 1) = some (PySem.HandSPX.excO (ga X.K C) hp.objs.size) := by heap_get
  have I2 : L2.Inv X pins σ (upd H1 (hp.objs.size + 1) (exo (hp.objs.size + 1) (ga X.K C) none)) ⟨(hp.push (PySem.W.kdv_tup us)).push (PySem.HandSPX.excO (ga X.K C) hp.objs.size), g, dr, tk, os⟩ :=
    I1.laid (t' := tk) (a := hp.objs.size + 1) (o := exo (hp.objs.size + 1) (ga X.K C) none) (h' := (hp.push (PySem.W.kdv_tup us)).push (PySem.HandSPX.excO (ga X.K C) hp.objs.size)) kk hsz (exo_ok hget)
  have r2 : Vals (V.ref (hp.objs.size + 1) :: vs) (Value.ref (hp.objs.size + 1) :: us) := .cons rfl r1
  have hl : (Value.ref (hp.objs.size + 1) :: us ++ []).length = ps.length := by
    rw [List.append_nil, ← r2.length]
    exact F1.len _ _ _ _ hq
  have hus : us.length ≤ sizeLine := by
    rw [← Paired.length r1, sizeLine_eq]
    omega
  have bb := hb _ (Value.ref (hp.objs.size + 1) :: us) I2.kIn hl
  rw [List.append_nil] at bb
  refine wpAny_call (PySem.HandSPX.call_own b.base (fun Y => rfl) (I1.kIn _ _ hC) (PySem.W.looks_findIn I1.kIn T.i) (fun self => PySem.W.bind_fn I1.kIn self T.t) hus
    (codeAny_mono (F1.run _ X.stack _ _ ⟨Value.ref (hp.objs.size + 1) :: us, []⟩ (Value.ref (hp.objs.size + 1) :: us) _ _ (fun _ _ _ => False) ((hr.r.mono hk).make (ga X.K C) us []) (I2.env0.make (ga X.K C) us []) bb r2 hq) fun r s' hq' => ?_))
  match r, hq' with
  | .error er, hq' => exact passL pins σ _ _ er s' I2 hq'
  | .ok (.ret u), hq' =>
    obtain ⟨v, H', I3, rv, ev, q3⟩ := I2.after hq'
    subst ev
    exact ⟨rv, V.ref (hp.objs.size + 1), H', I3, rfl, q3⟩
/-- C(f=e, ..) -/
theorem pe_mkVk (T : ExcT X.K X.mg C) (F : FnUk X.prog X.w X.K X.mg X.base k (ma X.K (ga X.K C) "__init__") ks sw sp) (hr : Rm j X.A) (ha : PK X kws ta) (hk : k + 1 ≤ j := by decide) (hg : Gl X C := by rfl)
    (hall : (backToKw pos (keywordEach kws X.env)).all (·.1.isSome) = true := by rfl) (hks : (backToKw pos (keywordEach kws X.env)).filterMap (·.1) = ks := by rfl)
    (hdb : (C == ("__debug__" : Str)) = false := by decide) (hpl : ((backTo pos (starEach [] X.env)).any (·.1) || (backToKw pos (keywordEach kws X.env)).any (·.1.isNone)) = false := by rfl) :
    PE X (.Call (.Name C p) [] kws pos) (fun σ H Q => ta σ H fun vs H1 => vs.length = ks.length ∧ ∀ a, H1 a = none → sp (.ref a :: (if sw then vs.reverse else vs)) (upd H1 a (exo a (ga X.K C) none)) (fun x H2 => x = .non ∧ Q (.ref a) H2) (fun _ _ _ => False)) := by
  obtain ⟨⟨fd, ps, F1, hb⟩⟩ := F
  refine ⟨fun pins s σ H Q I h => ?_⟩
  obtain ⟨b, nm, q, N, bs, sn, sub, ab, col, dd, k0, k1, k2, k3, k5, hC⟩ := T.o.cls
  refine wpAny_Call_Name_kw (ld_glob I hg T.g ?_ hdb)
  refine PySem.W.callWith_KW0 (first := []) (h₀ := X.base) I.ok.mod.kin T.o.kC hall (thn (ha.run pos pins s σ H _ I h) fun us s1 ⟨vs, H1, I1, r1, hz, q1⟩ => ⟨I1.kIn, ?_⟩) hpl
  rw [hks]
  show wpAny _ _ (call (.ref (ga X.K C)) [] (ks.zip us)) _ _ _
  obtain ⟨hp, g, dr, tk, os⟩ := s1
  have hsz : hp.objs.size ≤ hp.objs.size + 1 := Nat.le_succ _
  have hn : H1 (hp.objs.size + 1) = none := I1.hok.fresh hsz
  have hq := q1 (hp.objs.size + 1) hn
  have kk : ∀ b o, hp.get? b = some o → ((hp.push (PySem.W.kdv_tup [])).push (PySem.HandSPX.excO (ga X.K C) hp.objs.size)).get? b = some o := fun b o e => Heap.get?_push_of_some _ (Heap.get?_push_of_some _ e)
  have hget : ((hp.push (PySem.W.kdv_tup [])).push (PySem.HandSPX.excO (ga X.K C) hp.objs.size)).get? (hp.objs.size + 1) = some (PySem.HandSPX.excO (ga X.K C) hp.objs.size) := by heap_get
  have I2 : L2.Inv X pins σ (upd H1 (hp.objs.size + 1) (exo (hp.objs.size + 1) (ga X.K C) none)) ⟨(hp.push (PySem.W.kdv_tup [])).push (PySem.HandSPX.excO (ga X.K C) hp.objs.size), g, dr, tk, os⟩ :=
    I1.laid (t' := tk) (a := hp.objs.size + 1) (o := exo (hp.objs.size + 1) (ga X.K C) none) (h' := (hp.push (PySem.W.kdv_tup [])).push (PySem.HandSPX.excO (ga X.K C) hp.objs.size)) kk hsz (exo_ok hget)
  have r2 : Vals (if sw then vs.reverse else vs) (if sw then us.reverse else us) := by
    cases sw
    · exact r1
    · exact vals_rev r1
  have r3 : Vals (V.ref (hp.objs.size + 1) :: (if sw then vs.reverse else vs)) (Value.ref (hp.objs.size + 1) :: (if sw then us.reverse else us)) := .cons rfl r2
  have bb := hb ⟨(hp.push (PySem.W.kdv_tup [])).push (PySem.HandSPX.excO (ga X.K C) hp.objs.size), g, dr, tk, os⟩ (Value.ref (hp.objs.size + 1)) us (by rw [← r1.length]; exact hz)
  refine wpAny_call (PySem.HandSPX.call_ownK b.base (fun Y => rfl) (I1.kIn _ _ hC) (PySem.W.looks_findIn I1.kIn T.i) (fun self => PySem.W.bind_fn I1.kIn self T.t)
    (codeAny_mono (F1.run _ X.stack _ _ ⟨[Value.ref (hp.objs.size + 1)], ks.zip us⟩ (Value.ref (hp.objs.size + 1) :: (if sw then us.reverse else us)) _ _ (fun _ _ _ => False) ((hr.r.mono hk).make (ga X.K C) [] (ks.zip us)) (I2.env0.make (ga X.K C) [] (ks.zip us)) bb r3 hq) fun r s' hq' => ?_))
  match r, hq' with
  | .error er, hq' => exact passL pins σ _ _ er s' I2 hq'
  | .ok (.ret u), hq' =>
    obtain ⟨v, H', I3, rv, ev, q3⟩ := I2.after hq'
    subst ev
    exact ⟨rv, V.ref (hp.objs.size + 1), H', I3, rfl, q3⟩
/-- C(), a class without an own __init__ -/
theorem pe_mkV0 {bmB : List Value} {B newId initId : String} (F : ExcBaseFacts B newId initId bmB) (q : PySem.W.excIn X.K (ga X.K C) bmB newId = true) (gC : X.mg C = some (.ref (ga X.K C))) (kC : PySem.W.keepIn X.K (.ref (ga X.K C)) = true) (hg : Gl X C := by rfl) (hdb : (C == ("__debug__" : Str)) = false := by decide) :
    PE X (.Call (.Name C p) [] [] pos) (fun σ H Q => ∀ a, H a = none → Q (.ref a) (upd H a (ExO (.ref (ga X.K C)) a))) := by
  refine ⟨fun pins s σ H Q I h => ?_⟩
  refine wpAny_Call_Name_kw (ld_glob I hg gC ?_ hdb)
  refine PySem.W.callWith_K0 (first := []) I.kIn kC ?_
  show wpAny _ _ (call (.ref (ga X.K C)) []) _ _ _
  obtain ⟨bm, N, nm, qn, bs, hdct, sn, sub, ab, col, dd, k0, k1, k2, k3, k5, mN, hC, hN, hni, T⟩ := exc_obj I.kIn q
  refine wpAny_call_exc_subT F T hC hN hni (fun h' a hm => ?_) (Nat.zero_le _)
  have hn : H a = none := I.hok.gone hm.new
  obtain ⟨t, ht, _, _⟩ := hm.there
  exact ⟨.ref a, upd H a (ExO (.ref (ga X.K C)) a), I.laidN hm.keeps hm.new hn (exO_ok ht ⟨rfl, rfl⟩ rfl rfl rfl (show 4 < 6 by decide)), rfl, h a hn⟩
/-- e.f, e an error as a value -/
def tXv (K : Frag) (n : Str) (te : TE) : TE := fun σ H Q => te σ H fun x H1 => ∃ (a D : Addr) (fs : List (Str × V)) (v : V), x = .ref a ∧ EvAt H1 a D fs ∧ XfC K D ∧ PySem.W.findIn K (.ref D) n = some none ∧ fs.lookup n = some v ∧ Q v H1
theorem pe_xv {te : TE} {n : Str} (he : PE X e te) (hb : attributeBase e n X.env (eval e X.env) = eval e X.env := by rfl) : PE X (.Attribute e n pos) (tXv X.K n te) := by
  refine ⟨fun pins s σ H Q I h => ?_⟩
  refine attr_of hb (thn (he.run pins s σ H _ I h) fun u s1 hh => ?_)
  obtain ⟨x, H1, I1, rx, a, D, fs, v, ex, ⟨dx, ea, ed⟩, T, hno, l, q⟩ := hh
  subst ex
  obtain rfl : u = Value.ref a := rx
  obtain ⟨t1, ho⟩ := exo_at I1.hok ea
  obtain ⟨mA, hns, hr⟩ := exd_at I1.hok ed
  obtain ⟨od, hod, hl⟩ := lookIn_ns hns
  obtain ⟨u, hu, ru⟩ := RelO.some_of (v := v) (o := mA n) (by rw [← l]; exact hr n)
  have J : PySem.W.InstAt s1.heap a _ D (some od) := ⟨ho, rfl, rfl, hod⟩
  exact HandSPX.exc_get I1.kIn J T.ga T.gg T.exC (PySem.W.findObj_own T.hdC hno rfl (by rw [hl, hu])) (handed_of ru) ⟨v, H1, I1.tok _, ru, q⟩
/-- what an error's object is, with or without fields -/
def Ev (H : Hp) (a C : Addr) : Prop := (∃ fs, EvAt H a C fs) ∨ EvN H a C
theorem ev_kit {pins : List (Addr × Obj)} {σ : L2.St} {H : Hp} {s : Shared} {a D : Addr} (I : L2.Inv X pins σ H s) (h : Ev H a D) (T : ExcC X.K D) : ∃ (P : Heap → Prop), PySem.W.KitX X.K (.ref a) (.ref D) P ∧ P s.heap := by
  rcases h with ⟨fs, dx, ea, ed⟩ | ea
  · obtain ⟨t1, ho⟩ := exo_at I.hok ea
    obtain ⟨mA, hns, hr⟩ := exd_at I.hok ed
    obtain ⟨od, hod, hl⟩ := lookIn_ns hns
    exact ⟨_, kitx_excD T, ⟨ho, rfl, rfl, hod⟩⟩
  · obtain ⟨⟨oe, vs, ho, hz, hd, _⟩, _, _⟩ := I.hok a _ ea
    have hcl : (PySem.W.clsIn X.K D).isSome = true := by
      obtain ⟨cd, hc, _⟩ := PySem.W.any_some T.hd
      rw [hc]
      rfl
    have J : PySem.W.InstAt s.heap a oe D none := ⟨ho, hz.1, by unfold PySem.W.notCls; rw [hd] <;> rfl, by rw [hz.2]; trivial⟩
    exact ⟨_, PySem.W.kitx_exc (ox := oe) (od := none) hcl T.hg T.hk T.hs T.ha T.hn T.ht T.hm, J⟩
/-- isinstance(e, c), e an error as a value -/
def rIsV (K : Frag) : List V → Hp → VK → Prop := fun xs H Q => ∃ (a D : Addr) (c : V) (cv : Value) (b : Bool), xs = [.ref a, c] ∧ Ev H a D ∧ ExcC K D ∧ ClsV c cv ∧ PySem.W.kitOne K (.ref D) cv = some b ∧ Q (.bl b) H
theorem call_isV : CallR X (.builtin "isinstance") (rIsV X.K) := by
  intro pins s σ H xs us Q I r h
  obtain ⟨a, D, c, cv, b, rfl, ev, T, hcv, e, q⟩ := h
  cases r with
  | cons rx rr =>
    cases rr with
    | cons rt rr =>
      cases rr
      cases rx
      have ec := hcv.eq rt
      subst ec
      obtain ⟨P, Z, hP⟩ := ev_kit I ev T
      exact PySem.W.kia_one Z I.kIn hP e (fun z => nomatch z) fun tk => ⟨.bl b, H, I.kept (t' := tk) fun _ _ z => z, rfl, q⟩
/-- .. of a tuple of classes -/
def rIsVT (K : Frag) : List V → Hp → VK → Prop := fun xs H Q => ∃ (a D t : Addr) (cs : List Addr) (b : Bool), xs = [.ref a, .ref t] ∧ Ev H a D ∧ ExcC K D ∧ H t = some (.tup (cs.map V.ref)) ∧ PySem.W.kitAny K (.ref D) (cs.map Value.ref) = some b ∧ Q (.bl b) H
theorem call_isVT : CallR X (.builtin "isinstance") (rIsVT X.K) := by
  intro pins s σ H xs us Q I r h
  obtain ⟨a, D, t, cs, b, rfl, ev, T, ht, e, q⟩ := h
  cases r with
  | cons rx rr =>
    cases rr with
    | cons rt rr =>
      cases rr
      cases rx
      cases rt
      obtain ⟨P, Z, hP⟩ := ev_kit I ev T
      obtain ⟨_, its, rv, ⟨c, dd, dt, sl⟩, hget, hc, n, hd⟩ := I.hok t _ ht
      dsimp only at hc hd
      subst hc hd
      rw [map_unref rv] at hget
      exact PySem.W.kia_tup Z I.kIn hP hget e (fun z => nomatch z) fun tk => ⟨.bl b, H, I.kept (t' := tk) fun _ _ z => z, rfl, q⟩
end
/-- data, the empty dict among it -/
inductive Dq (K : Frag) (H : Hp) : V → PyData → Prop
  | dp {v : V} {d : PyData} (h : Dp K H v d) (hd : d.hasDict = false) : Dq K H v d
  | ed {a : Addr} (h : H a = some (.dK [])) : Dq K H (.ref a) (.dict [])
inductive DqAll (K : Frag) (H : Hp) : List V → List PyData → Prop
  | nil : DqAll K H [] []
  | cons {v : V} {d : PyData} {vs : List V} {ds : List PyData} (h : Dq K H v d) (t : DqAll K H vs ds) : DqAll K H (v :: vs) (d :: ds)
section
open PySem.W PySem.Calls
variable {X : Cx} {pins : List (Addr × Obj)} {σ : L2.St} {H : Hp} {s : Shared}
theorem dq_reads (I : L2.Inv X pins σ H s) {v : V} {d : PyData} {u : Value} (h : Dq X.K H v d) (r : RelV v u) : ∃ as, Reads s.heap u d as ∧ (d.hasDict = true → sysModules ∉ as) := by
  cases h with
  | dp h hd =>
    obtain ⟨as, rd⟩ := Dp.reads I _ _ u h r
    exact ⟨as, rd, fun z => by rw [hd] at z; cases z⟩
  | @ed a h =>
    cases (show u = Value.ref a from r)
    obtain ⟨_, hsys, vs, kv, o, es, ep, ho, hx, hd, _, hp, _⟩ := I.hok a _ h
    have ev : vs = [] := by cases kv; rfl
    subst ev
    have ee : es = #[] := by
      have z : es.toList = [] := List.eq_nil_of_length_eq_zero hp.length
      exact Array.toList_eq_nil_iff.mp z
    subst ee
    refine ⟨[a] ++ [], Reads.dict ho hx.1 hd .nil .nil, fun _ hm => ?_⟩
    have : sysModules = a := by simpa using hm
    rw [this] at hsys
    simp at hsys
theorem dq_all (I : L2.Inv X pins σ H s) : ∀ {vs : List V} {ds : List PyData} {us : List Value}, DqAll X.K H vs ds → Vals vs us → PyData.showableAll ds = true → (∀ t ∈ PyData.shownAll ds, t.length ≤ sizeLine) →
    ∃ as bs, ReadsAll s.heap us ds as ∧ ReadAtMost s.heap (PyData.depthAll ds) bs ∧ ReprAllK X.prog X.w bs s.heap (PyData.depthAll ds) us (PyData.shownAll ds)
  | [], [], _, .nil, .nil, _, _ => ⟨[], [], .nil, (fun _ h => nomatch h), by simp only [PyData.shownAll]; exact .nil⟩
  | v :: vs, d :: ds, _, .cons h t, .cons r rr, hs, hz => by
    have hs' : d.showable = true ∧ PyData.showableAll ds = true := by simpa [PyData.showableAll] using hs
    obtain ⟨a1, rd, hsm⟩ := dq_reads I h r
    obtain ⟨b1, hb1, k1⟩ := ReprK.of_reads (prog := X.prog) (w := X.w) rd hs'.1 hsm (hz _ (by simp only [PyData.shownAll]; exact List.mem_cons_self ..))
    obtain ⟨a2, b2, rds, hb2, k2⟩ := dq_all I t rr hs'.2 (fun t ht => hz t (by simp only [PyData.shownAll]; exact List.mem_cons_of_mem _ ht))
    refine ⟨a1 ++ a2, b1 ++ b2, .cons rd rds, fun b hm => ?_, ?_⟩
    · simp only [PyData.depthAll]
      rcases List.mem_append.mp hm with hm | hm
      · obtain ⟨d', as', r', hd'⟩ := hb1 b hm
        exact ⟨d', as', r', Nat.le_trans hd' (Nat.le_max_left _ _)⟩
      · obtain ⟨d', as', r', hd'⟩ := hb2 b hm
        exact ⟨d', as', r', Nat.le_trans hd' (Nat.le_max_right _ _)⟩
    · simp only [PyData.depthAll, PyData.shownAll]
      refine .cons ((k1.more fun b hb => List.mem_append_left _ hb).level_le (Nat.le_max_left _ _)) ?_
      have : ∀ {us : List Value} {ts : List Str}, ReprAllK X.prog X.w b2 s.heap (PyData.depthAll ds) us ts → ReprAllK X.prog X.w (b1 ++ b2) s.heap (max d.depth (PyData.depthAll ds)) us ts := fun h => by
        induction h with
        | nil => exact .nil
        | cons k _ ih => exact .cons ((k.more fun b hb => List.mem_append_right _ hb).level_le (Nat.le_max_right _ _)) ih
      exact this k2
end
/-- repr of a list of data, empty dicts among it -/
def rReprL (K : Frag) : List V → Hp → VK → Prop := fun xs H Q => ∃ (a : Addr) (v : V) (vs : List V) (ds : List PyData), xs = [.ref a] ∧ H a = some (.lst (v :: vs)) ∧ DqAll K H (v :: vs) ds ∧ PyData.showableAll ds = true ∧ PyData.depthAll ds ≤ 60 ∧ (listText (PyData.shownAll ds)).length ≤ sizeLine ∧ Q (.str (listText (PyData.shownAll ds))) H
theorem call_reprL {X : Cx} (hg : X.A.guards = some []) (hu : X.A.units + 99 < cLine) : CallR X (.builtin "repr") (rReprL X.K) := by
  intro pins s σ H xs us Q I r h
  obtain ⟨a, v, vs, ds, rfl, ha, hd, hs, hdep, hz, q⟩ := h
  obtain ⟨u, rfl, ru⟩ := r.one
  cases (show u = Value.ref a from ru)
  obtain ⟨_, its, n, rv, ho⟩ := I.hok a _ ha
  obtain ⟨as, bs, rds, hb, hk⟩ := dq_all I hd rv hs (fun t ht => Nat.le_trans (listText_mem_le ht) hz)
  cases rv with
  | cons r0 rr =>
    rename_i u0 us0
    have rd : Reads s.heap (.ref a) (.list ds) _ := .list ho rfl rfl (by simpa using rds)
    have hna : a ∉ bs := not_mem_of_deeper rd (by simp only [PyData.depth]; omega) hb
    refine call_repr_slot (by omega) (T := "list") ⟨_, ho, rfl⟩ F.slot_list_repr.toG (call_list_reprK (A := X.A.in1) ho rfl rfl hna (by simpa using hk.length_eq) (fun i y e => hk.item i y (by simpa using e)) hg (fun b _ => Clear.nil b) (by show X.A.units + 1 + (PyData.depthAll ds + 1) < cLine; omega) (fun _ _ z => z) (fun h' t tk k => ⟨_, _, rfl, ?_⟩) hz)
    exact ⟨.str _, H, I.kept (t' := tk) k, ⟨t, rfl⟩, q⟩
/-- what isinstance tells of an error's class and five built-in ones -/
def base5 : List String := ["ValueError", "LookupError", "RuntimeError", "OverflowError", "KeyError"]
def basesOf (K : Frag) (C : Addr) : List (Option Bool) := base5.map fun T => PySem.W.kitOne K (.ref C) (.type T)
section
variable {K : Frag} {C : Addr} {f g : Str} {v w : V} {H : Hp} {Q : VK} {ta : TA} {σ : L2.St}
/-- C(v) as a value -/
theorem mkV1 (ht : ∀ Q' : List V → Hp → Prop, Q' [v] H → ta σ H Q') (q : ∀ G a, Same H G → H a = none → EvAt G a C [(f, v)] → Q (.ref a) G) : tMkV C (spX1 C f) ta σ H Q := by
  refine ht _ ⟨by simp, fun a na => ⟨a, v, rfl, upd_same, fun dx nd ne => ⟨rfl, ?_⟩⟩⟩
  have nd' : H dx = none := by rw [upd_ne ne] at nd; exact nd
  refine q _ a (fun b o h => ?_) na ⟨dx, upd_same, by rw [upd_ne ne, upd_same]⟩
  rw [upd_ne (ne_of_none h na), upd_ne (ne_of_none h nd'), upd_ne (ne_of_none h na)]
  exact h
theorem mkV2 (ht : ∀ Q' : List V → Hp → Prop, Q' [v, w] H → ta σ H Q') (q : ∀ G a, Same H G → H a = none → EvAt G a C [(g, w), (f, v)] → Q (.ref a) G) : tMkV C (spX2 C f g) ta σ H Q := by
  refine ht _ ⟨by simp, fun a na => ⟨a, v, w, rfl, upd_same, fun dx nd ne => ⟨rfl, ?_⟩⟩⟩
  have nd' : H dx = none := by rw [upd_ne ne] at nd; exact nd
  refine q _ a (fun b o h => ?_) na ⟨dx, by rw [upd_ne ne.symm, upd_same], upd_same⟩
  rw [upd_ne (ne_of_none h nd'), upd_ne (ne_of_none h na), upd_ne (ne_of_none h nd'), upd_ne (ne_of_none h na)]
  exact h
end
end Ah

/-! sorted(xs, key=lambda x: ..), the keys points -/
namespace Ah
open PySem PySem.Spec PySem.Calls PyProof.Rows L2 He LamX
/-- a lambda with one parameter, called -/
theorem lam_run1 {P : Program} {w : World} {K : Frag} {mg : Str → Option Value} {base : Heap} {A : Around} {outer : List Env} {s : Shared} {H : Hp} {k : Nat} {f c' : Addr} {q x : Str} {params : Arguments} {body : Expr} {scope : Scope} {pm ctv u : Value} {v : V} {Q : VK} {N : List Str} {t : TE}
    (e0 : Env0 P w K mg base A outer s H) (hr : Rm (k + 1) A) (S : FnScope N [x] scope) (hf : s.heap.get? f = some (PySem.W.kla_obj "<lambda>" q params body scope [] pm c' ctv)) (hc : H c' = some (CodeO c' q))
    (hbind : bindArgs (PySem.W.kla_fn "<lambda>" q params body scope [] pm (.ref c') ctv) ⟨[u], []⟩ = pure [(x, u)]) (r : RelV v u)
    (hbody : Rm k (A.deeper (envOfC q scope s.heap.objs.size f (.ref c'))) → PE (cxOf L2.CX0 P w K mg base N q scope f (.ref c') A outer s H L2.E0) body t) (h : t (L2.start N [v]) H Q) :
    codeAny (model P w) A (.call (.ref f) ⟨[u], []⟩) (CR L2.CX0 outer P w H s Q L2.E0) s := by
  have lim : s.heap.NoLimit := e0.mod.nolimit.keeps fun b o e => (e0.bs b o e).1
  obtain ⟨⟨oc, vs, t', hoc, hdc, hvc⟩, _, _⟩ := e0.hok c' _ hc
  have hkind : ∀ y ∈ [(x, u)], scope.names.lookup y.1 = some .local ∨ (scope.names.lookup y.1 = some .cell ∧ ((cellsFrom (s.heap.objs.size + 1) scope.names []).lookup y.1).isSome = true) := fun y hy => by
    rw [List.mem_singleton] at hy
    subst hy
    rcases S.par x (by simp) with q | q
    · exact .inl q
    · exact .inr ⟨q, PySem.W.cellsFrom_some _ _ _ (.inl q)⟩
  refine PySem.W.kla_callFunE hr.r.depth hf rfl S.co S.gen rfl ⟨c', oc, vs, t', rfl, hoc, hdc, hvc⟩ ?_
  rw [hbind]
  refine wpAny_pure (wpAny_newFunctionEnv_cells S.kind hkind fun env he s1 x => ?_)
  subst he
  refine ⟨lim.keeps x.toInCall.keep, ?_⟩
  have I : Inv (cxOf L2.CX0 P w K mg base N q scope f (.ref c') A outer s H L2.E0) [] (L2.start N [v]) H s1 := inv_start S hr.r.hd e0 rfl (.cons r .nil) x
  refine PySem.W.kla_codeExpr (wpAny_mono ((hbody ⟨hr.r.deeper _, hr.g⟩).run [] _ _ H Q I h) (fun v s' hq => ?_) fun e s' hq => hq)
  obtain ⟨w', H', J', rv, q⟩ := hq
  exact ⟨w', H', J'.os, J'.bare, J'.base, J'.hok, rv, q⟩

/-! ### the keys' loop, told by Inv -/
/-- a heap that lacks k -/
def lacks (h : Heap) (k : Addr) : Heap := h.update k fun o => { o with data := .freed }
theorem lacks_at (h : Heap) (k : Addr) : (lacks h k).get? k = none := by
  obtain ⟨objs, l⟩ := h
  unfold lacks Heap.update Heap.get?
  simp only [Array.getElem?_modify]
  cases e : objs[k]? with
  | none => simp
  | some o => simp
theorem lacks_old {h : Heap} {k b : Addr} {o : Obj} (e : (lacks h k).get? b = some o) : b ≠ k ∧ h.get? b = some o := by
  have n : b ≠ k := fun z => by
    rw [z, lacks_at] at e
    cases e
  exact ⟨n, ((Heap.SameBut.update h k fun o => { o with data := .freed }).2 b n).symm.trans e⟩
theorem lacks_new {h : Heap} {k b : Addr} {o : Obj} (n : b ≠ k) (e : h.get? b = some o) : (lacks h k).get? b = some o := ((Heap.SameBut.update h k fun o => { o with data := .freed }).2 b n).trans e
section
variable {X : Cx} {pins : List (Addr × Obj)} {σ : L2.St} {H : Hp} {s : Shared}
/-- two records of ours have turned, the first one is known from now on -/
theorem inv_adopt {a k : Addr} {xs : List V} {its : List Value} {n : Nat} {h' : Heap} {t' : Nat} (I : L2.Inv X pins σ H s) (fa : FpOk X pins H a) (fk : FpOk X pins H k) (kp : ∀ b o, b ≠ a → b ≠ k → s.heap.get? b = some o → h'.get? b = some o)
    (hz : xs.length ≤ sizeLine) (r : Vals xs its) (ha : h'.get? a = some (seqObj "list" its.toArray n)) : L2.Inv X pins σ (upd H a (.lst xs)) { s with heap := h', toks := t' } := by
  have nit : ∀ b u, H b = some u → b ≠ a ∧ b ≠ k := fun b u e => ⟨ne_of_none e fa.1, ne_of_none e fk.1⟩
  have n2 : ∀ b, b ∉ [a, k] → b ≠ a ∧ b ≠ k := fun b hb => ⟨fun z => hb (by simp [z]), fun z => hb (by simp [z])⟩
  refine I.step (g' := s.gens) (d' := s.drawn) (ch := [a, k]) (fun b hb => ?_) (fun b o _ _ hc e _ => kp b o (n2 b hc).1 (n2 b hc).2 e) (fun b o _ _ hc e _ => ⟨o.slots, kp b o (n2 b hc).1 (n2 b hc).2 e⟩) (fun b o hc _ e => by rw [upd_ne (n2 b hc).1]; exact e)
    (fun b o hc e => ⟨o, kp b o (n2 b hc).1 (n2 b hc).2 e⟩) (fun b xs e => by rw [upd_ne (nit b _ e).1]; exact e) (fun b o u e => by rw [upd_ne (nit b _ e).1]; exact e) (fun b ps e => ⟨#[], by rw [upd_ne (nit b _ e).1, e]; simp⟩) (fun m hm => ?_) (fun b u e => ?_) I.bare
  · rcases List.mem_cons.mp hb with rfl | hb
    · exact ⟨fa.2.2.2.1, fa.2.1, fa.2.2.2.2.1, fa.2.2.2.2.2⟩
    · rw [List.mem_singleton] at hb
      subst hb
      exact ⟨fk.2.2.2.1, fk.2.1, fk.2.2.2.2.1, fk.2.2.2.2.2⟩
  · obtain ⟨o, es, ep, ho, r⟩ := hm
    exact ⟨o, es, ep, kp _ o (Ne.symm fa.2.1) (Ne.symm fk.2.1) ho, r⟩
  · by_cases hb : b = a
    · subst hb
      rw [upd_same] at e
      cases e
      exact ⟨hz, its, n, r, ha⟩
    · rw [upd_ne hb] at e
      refine (I.hok b u e).stay (fun c v hc q => ?_) (fun c q => by rw [upd_ne (nit c _ q).1]; exact q) fun c xs q => by rw [upd_ne (nit c _ q).1]; exact q
      rcases hc with z | z
      · rw [z] at q ⊢
        exact kp b v (nit b u e).1 (nit b u e).2 q
      · exact kp c v (nit c _ z).1 (nit c _ z).2 q
open PySem.W in
theorem each_zip : ∀ (as : List Addr) (ps : List Pt), as.length = ps.length → EachIs (fun (v : Value) (x : Addr × Pt) => v = Value.ref x.1) (as.map Value.ref) (as.zip ps)
  | [], _, _ => .nil
  | _ :: _, [], h => nomatch h
  | _ :: as, _ :: ps, h => .cons rfl (each_zip as ps (by simpa using h))
open PySem.W in
theorem each_map_eq {out : List Value} {bs : List (Addr × Pt)} (h : EachIs (fun (v : Value) (x : Addr × Pt) => v = Value.ref x.1) out bs) : out = (bs.map fun x => x.1).map Value.ref := by
  induction h with
  | nil => rfl
  | cons h _ ih => rw [h, ih]; rfl
open PySem.W in
theorem keys_rest {a kS f : Addr} {as : List Addr} {ps : List Pt} {e1 : Nat} {P : PySem.Fin → Shared → Prop} {E : Value → Shared → Prop} (I : L2.Inv X pins σ H s) (fa : FpOk X pins H a) (fk : FpOk X pins H kS) (hka : kS ≠ a)
    (nk : s.heap.get? kS = some (seqObj "list" #[] 0)) (na : s.heap.get? a = some (seqObj "list" #[] e1)) (hlen : as.length = ps.length) (hZ : as.length ≤ sizeLine) (hu : X.A.units + 3 < cLine)
    (turn : ∀ (pn : List (Addr × Obj)) (s : Shared) (b : Addr) (p : Pt), (b, p) ∈ as.zip ps → L2.Inv X (pins ++ pn) σ H s → wpAny (model X.prog X.w) X.A.in1.in1 (call (.ref f) [.ref b]) (fun u s' => ∃ k, u = .ref k ∧ PtAt H k p ∧ L2.Inv X (pins ++ pn) σ H s') (fun _ _ => False) s)
    (h : ∀ (s' : Shared) (bs : List (Addr × Pt)), L2.Inv X pins σ (upd H a (.lst (bs.map fun x => V.ref x.1))) s' → bs.Perm (as.zip ps) → bs.Pairwise (fun x y => ptLt y.2 x.2 = false) → P (.done (.ret .none)) s') :
    wpAny (model X.prog X.w) X.A.in1.in1 (ksk_rest a (.ref f) false (as.map Value.ref).toArray e1 (.ref kS)) P E s := by
  unfold ksk_rest
  refine wpAny_bind (wpAny_rule ?_)
  rw [List.forIn_toArray]
  refine wpAny_bind (ksk_fold (fun i s' => ∃ (kA : List Addr) (e : Nat), L2.Inv X pins σ H s' ∧ s'.heap.get? kS = some (seqObj "list" (kA.map Value.ref).toArray e) ∧ s'.heap.get? a = some (seqObj "list" #[] e1) ∧ PtsAt H kA (ps.take i)) (as.map Value.ref) 0 s
    ⟨[], 0, I, nk, na, by rw [List.take_zero]; exact .nil⟩ ?step ?done)
  case step =>
    rintro j x s' hx ⟨kA, e, I', nk', na', hk⟩
    simp only [Nat.zero_add] at hk ⊢
    obtain ⟨b, eb, rfl⟩ : ∃ b, as[j]? = some b ∧ x = Value.ref b := by
      rw [List.getElem?_map] at hx
      cases q : as[j]? with
      | none =>
        rw [q] at hx
        cases hx
      | some b =>
        rw [q] at hx
        cases hx
        exact ⟨b, rfl, rfl⟩
    have hj : j < as.length := (List.getElem?_eq_some_iff.mp eb).1
    obtain ⟨p, ep⟩ : ∃ p, ps[j]? = some p := ⟨_, List.getElem?_eq_getElem (by omega)⟩
    have hz : (b, p) ∈ as.zip ps := List.mem_of_getElem? (i := j) (by rw [List.getElem?_zip_eq_some]; exact ⟨eb, ep⟩)
    have hkl := hk.len
    have hps : (ps.take j).length ≤ ps.length := by rw [List.length_take]; omega
    have I2 : L2.Inv X (pins ++ [(kS, seqObj "list" (kA.map Value.ref).toArray e), (a, seqObj "list" #[] e1)]) σ H s' := I'.pins_of fun p hp => (List.mem_append.mp hp).elim (fun z => I'.pin p (List.mem_append_right _ z)) fun z => by
      rcases List.mem_cons.mp z with rfl | z
      · exact ⟨nk', fk.1, fk.2.1, fk.2.2.1, fun v z => by cases z⟩
      · rw [List.mem_singleton] at z
        subst z
        exact ⟨na', fa.1, fa.2.1, fa.2.2.1, fun v z => by cases z⟩
    refine wpAny_bind (wpAny_attempt (wpAny_mono (turn _ s' b p hz I2) (fun v s'' he => ?_) fun _ _ hF => hF.elim))
    obtain ⟨k, rfl, hkp, I3⟩ := he
    try dsimp only
    have nk3 := (I3.pin (kS, seqObj "list" (kA.map Value.ref).toArray e) (by simp)).1
    have na3 := (I3.pin (a, seqObj "list" #[] e1) (by simp)).1
    have s1 := Heap.SameBut.update s''.heap kS (Obj.mapSeq (·.push (Value.ref k)))
    obtain ⟨c2, hc2⟩ : ∃ c2, (s''.heap.update kS (Obj.mapSeq (·.push (Value.ref k)))).get? kS = some (seqObj "list" ((kA.map Value.ref).toArray.push (Value.ref k)) c2) := ⟨_, get?_update_seq nk3 (·.push (Value.ref k))⟩
    have sz : (kA.map Value.ref).toArray.size ≤ sizeLine := by
      rw [List.size_toArray, List.length_map]
      omega
    refine wpAny_bind (listUpdate_at nk3 rfl ?_ sz (by rw [Array.size_push]; omega))
    refine wpAny_pure ⟨rfl, kA ++ [k], c2, (I3.unpinned).turned (it := kS) (t' := s''.toks) (fun b o hb e => (s1.2 b hb).trans e) fk.1 fk.2.1 fk.2.2.2.1 fk.2.2.2.2.1 fk.2.2.2.2.2, ?_, (s1.2 a hka.symm).trans na3, ?_⟩
    · have ea : ((kA ++ [k]).map Value.ref).toArray = (kA.map Value.ref).toArray.push (Value.ref k) := by simp
      rw [ea]
      exact hc2
    · have ek : ps.take (j + 1) = ps.take j ++ [p] := by rw [List.take_add_one, ep]; rfl
      rw [ek]
      exact hk.app (.cons hkp .nil)
  case done =>
    rintro s' ⟨kA, e, I', nk', na', hk⟩
    rw [Nat.zero_add, List.length_map, hlen, List.take_length] at hk
    have hkl := hk.len
    refine wpAny_bind (listItems_at nk' rfl ?_)
    have hr : EachIs (fun (v : Value) (d : PyData) => ∃ as, Reads s'.heap v d as) (kA.map Value.ref) (ps.map ptD) := by
      clear nk' hkl hlen turn h
      induction hk with
      | nil => exact .nil
      | cons h _ ih => exact .cons (Dp.reads I' _ _ _ h.dp rfl) ih
    have hal : AllAlike (ps.map ptD) := AllAlike.of fun p q => rfl
    have hsk : Sortable (ps.map ptD) := Sortable.tuples fun p => ⟨_, _, rfl⟩
    have hdu : ∀ d, d ∈ ps.map ptD → X.A.in1.in1.units + d.depth < cLine := fun d hd => by
      obtain ⟨p, _, rfl⟩ := List.mem_map.mp hd
      have : (ptD p).depth = 1 := rfl
      show X.A.units + 1 + 1 + _ < _
      omega
    have kp : KeepsBut a (lacks s'.heap kS) s'.heap := fun b o _ e => (lacks_old e).2
    have S : SortsAt X.prog X.w X.A.in1.in1 s' (dataKind s'.heap (ps.map ptD)) (kA.map Value.ref) := SortsAt.data hr hal hsk hdu
    refine keyH_end (κ := dataKind s'.heap (ps.map ptD)) (h₁ := lacks s'.heap kS) (vs := as.map Value.ref) (keys := (kA.map Value.ref).toArray) kp (lacks_at _ _) nk' na' hka (by simpa using S) (by simp; omega) (by simpa using hZ) fun h3 tk3 c k3 n3 => ?_
    have ko : KeyedOut false ((as.zip ps).map fun x => ptD x.2) (as.map Value.ref) (sortVals (dataKind s'.heap (ps.map ptD)) false (kA.map Value.ref).toArray.toList (as.map Value.ref)) := by
      have ez : (as.zip ps).map (fun x => ptD x.2) = ps.map ptD := by
        rw [show (fun x : Addr × Pt => ptD x.2) = ptD ∘ Prod.snd from rfl, ← List.map_map, List.map_snd_zip (by omega)]
      rw [ez]
      exact ⟨s'.heap, kA.map Value.ref, hal, by simp, hr⟩
    have eR := each_zip as ps hlen
    have each := keyedOut_each (fun x : Addr × Pt => ptD x.2) ko eR
    have pm : ((as.zip ps).mergeSort (dataLe false fun x : Addr × Pt => ptD x.2)).Perm (as.zip ps) := List.mergeSort_perm _ _
    have pw : ((as.zip ps).mergeSort (dataLe false fun x : Addr × Pt => ptD x.2)).Pairwise (fun x y => ptLt y.2 x.2 = false) := by
      have z := List.pairwise_mergeSort (le := dataLe false fun x : Addr × Pt => ptD x.2) (fun x y z h1 h2 => ?_) (fun x y => ?_) (as.zip ps)
      · refine z.imp fun {x y} h => ?_
        have h' : (!ptLt y.2 x.2) = true := h
        simpa using h'
      · have h1' : (!ptLt y.2 x.2) = true := h1
        have h2' : (!ptLt z.2 y.2) = true := h2
        show (!ptLt z.2 x.2) = true
        rw [Bool.not_eq_true'] at h1' h2' ⊢
        exact ptLt_le h1' h2'
      · show ((!ptLt y.2 x.2) || (!ptLt x.2 y.2)) = true
        cases e : ptLt y.2 x.2 with
        | false => rfl
        | true =>
          rw [ptLt_asymm e]
          rfl
    generalize (as.zip ps).mergeSort (dataLe false fun x : Addr × Pt => ptD x.2) = bs at each pm pw
    have eo := each_map_eq each
    have em : (bs.map fun x => V.ref x.1) = (bs.map fun x => x.1).map V.ref := by rw [List.map_map]; rfl
    refine h _ bs ?_ pm pw
    rw [em]
    refine inv_adopt (k := kS) I' fa fk (fun b o h1 h2 e => k3 b o h1 (lacks_new h2 e)) ?_ (vals_refs _) (by rw [← eo]; exact n3)
    rw [List.length_map, List.length_map, pm.length_eq, List.length_zip]
    omega
open PySem.W in
theorem sort_keys {l f : Addr} {as : List Addr} {ps : List Pt} {Q : VK} (I : L2.Inv X pins σ H s) (hu : X.A.units + 3 < cLine) (hl : SqL X.K H l (as.map V.ref)) (hlen : as.length = ps.length)
    (turn : ∀ (pn : List (Addr × Obj)) (s : Shared) (b : Addr) (p : Pt), (b, p) ∈ as.zip ps → L2.Inv X (pins ++ pn) σ H s → wpAny (model X.prog X.w) X.A.in1.in1 (call (.ref f) [.ref b]) (fun u s' => ∃ k, u = .ref k ∧ PtAt H k p ∧ L2.Inv X (pins ++ pn) σ H s') (fun _ _ => False) s)
    (q : ∀ (r : Addr) (bs : List (Addr × Pt)), H r = none → bs.Perm (as.zip ps) → bs.Pairwise (fun x y => ptLt y.2 x.2 = false) → Q (.ref r) (upd H r (.lst (bs.map fun x => V.ref x.1)))) :
    wpAny (model X.prog X.w) X.A (call (.builtin "sorted") [.ref l] [(Str.ofString "key", .ref f)]) (EP X pins σ Q) X.xe s := by
  obtain ⟨its, rv, hpl, hz⟩ := I.list hl
  have ei := map_unref rv
  subst ei
  rw [List.length_map] at hz
  have sz : (as.map Value.ref).toArray.size ≤ sizeLine := by simpa using hz
  refine sorted_of_sort hpl.isList (by simpa using hz) (ksk_s1 _ _) (fun x => ksk_l1 _ _) fun E' => ?_
  rw [ksk_t1]
  have ho := copyHeap_at s.heap (as.map Value.ref)
  obtain ⟨e1, ho1⟩ : ∃ e1, ((copyHeap s.heap (as.map Value.ref)).update (s.heap.objs.size + 1) (Obj.mapSeq fun _ => (#[] : Array Value))).get? (s.heap.objs.size + 1) = some (seqObj "list" #[] e1) := ⟨_, get?_update_seq ho fun _ => #[]⟩
  have ha : s.heap.objs.size + 1 < (copyHeap s.heap (as.map Value.ref)).objs.size := Heap.lt_size ho
  have hkS : (((copyHeap s.heap (as.map Value.ref)).update (s.heap.objs.size + 1) (Obj.mapSeq fun _ => (#[] : Array Value))).push (seqObj "tuple" (as.map Value.ref).toArray 0)).objs.size = (copyHeap s.heap (as.map Value.ref)).objs.size + 1 := by rw [size_push', Heap.size_update]
  unfold ksk_tree
  refine wpAny_bind (listItems_at ho rfl ?_)
  refine wpAny_bind (listUpdate_at ho rfl ?_ sz (Nat.zero_le _))
  refine wpAny_bind (seqEpoch_at ho1 rfl ?_)
  refine wpAny_bind (wpAny_newTuple ?_ (by show (as.map Value.ref).length ≤ _; simpa using hz))
  refine wpAny_bind (wpAny_newList ?_ (Nat.zero_le _))
  refine wpAny_holding ?_
  have le2 : s.heap.objs.size ≤ (copyHeap s.heap (as.map Value.ref)).objs.size + 1 := by omega
  have kp : ∀ b o, s.heap.get? b = some o → (sortingHeap (copyHeap s.heap (as.map Value.ref)) (s.heap.objs.size + 1) (as.map Value.ref)).get? b = some o := fun b o e =>
    sortingHeap_old (Nat.ne_of_lt (Nat.lt_succ_of_lt (Heap.lt_size e))) (copyHeap_old e)
  have I5 := I.kept (t' := s.toks) kp
  refine keys_rest (as := as) (ps := ps) I5 (I.fpOk (Nat.le_succ _) (I.hok.fresh (Nat.le_succ _))) (I.fpOk (by rw [hkS]; exact le2) (I.hok.fresh (by rw [hkS]; exact le2))) (Nat.ne_of_gt (by rw [hkS]; exact Nat.lt_succ_of_lt ha)) (Heap.get?_push_size _ rfl) (Heap.get?_push_of_some _ (Heap.get?_push_of_some _ ho1)) hlen hz hu turn fun s' bs J pm pw => ⟨rfl, .ref (s.heap.objs.size + 1), _, J, rfl, q _ bs (I.hok.fresh (Nat.le_succ _)) pm pw⟩
end
/-- sorted(e, key=lambda x: ..): t reads the lambda's body -/
def tSortK (K : Frag) (T : List (Addr × Str)) (te : TA) (N : List Str) (t : TE) : TE := fun σ H Q => te σ H fun vs H1 => Tabs T H1 ∧ ∀ H2, ExtN H1 H2 → Tabs T H2 →
  ∃ (l : Addr) (as : List Addr) (ps : List Pt), vs = [.ref l] ∧ SqL K H2 l (as.map V.ref) ∧ as.length = ps.length ∧ (∀ b p, (b, p) ∈ as.zip ps → t (L2.start N [.ref b]) H2 fun v H3 => H3 = H2 ∧ ∃ k, v = .ref k ∧ PtAt H2 k p) ∧
    ∀ (r : Addr) (bs : List (Addr × Pt)), H2 r = none → bs.Perm (as.zip ps) → bs.Pairwise (fun x y => ptLt y.2 x.2 = false) → Q (.ref r) (upd H2 r (.lst (bs.map fun x => V.ref x.1)))
theorem clo_nil {cells : List (Str × Addr)} : ∀ {ns : List (Str × NameKind)}, (∀ y ∈ ns, y.2 ≠ .free) → cloFrom cells ns [] = [] := by
  intro ns h
  induction ns with
  | nil => rfl
  | cons y ns ih =>
    have h1 := h y (List.mem_cons_self ..)
    obtain ⟨a, k⟩ := y
    have h2 := ih fun z hz => h z (List.mem_cons_of_mem _ hz)
    cases k <;> first | exact h2 | exact absurd rfl h1
section
variable {X : Cx}
theorem pe_sortK {T : List (Addr × Str)} {c P : Addr} {k j : Nat} {x : Str} {e : Expr} {params : Arguments} {body : Expr} {scope : Scope} {te : TA} {t : TE} {N : List Str} {p lpos kpos pos : Pos}
    (hs : X.stack = X.env :: X.outer) (hf0 : X.env.frame = some X.env.locals) (hm : X.mg "sorted" = none) (he : PA X [e] te)
    (TB : TabB X.base X.mg c P) (hcode : X.env.code = .ref c) (hmT : (P, X.env.qual ++ "<lambda>") ∈ T) (hu : ∀ p ∈ T, p.1 = P → p.2 = X.env.qual ++ "<lambda>") (hr : Rm j X.A) (S : FnScope N [x] scope) (hnf : ∀ y ∈ scope.names, y.2 ≠ .free)
    (hbody : ∀ (A : Around) (outer : List Env) (s : Shared) (H : Hp) (f c' : Addr), Rm k (A.deeper (envOfC (X.env.qual ++ "<lambda>") scope s.heap.objs.size f (.ref c'))) → PE (cxOf L2.CX0 X.prog X.w X.K X.mg X.base N (X.env.qual ++ "<lambda>") scope f (.ref c') A outer s H L2.E0) body t)
    (hk : k + 3 ≤ j := by decide) (hg : Gl X "sorted" := by rfl) (hdef : defaultsOf params X.env = ([], []) := by rfl)
    (hbind : ∀ (q : Str) (pm cv ctv u : Value), bindArgs (PySem.W.kla_fn "<lambda>" q params body scope [] pm cv ctv) ⟨[u], []⟩ = pure [(x, u)] := by intro _ _ _ _ _; rfl)
    (hbk : backTo pos (starEach [e] X.env) = (false, eval e X.env) :: backTo pos (starEach [] X.env) := by rfl) (hpl : (backTo pos (starEach [e] X.env)).any (·.1) = false := by rfl) :
    PE X (.Call (.Name "sorted" p) [e] [⟨some "key", .Lambda params body scope lpos, kpos⟩] pos) (tSortK X.K T te N t) := by
  refine ⟨fun pins s σ H Q I h => ?_⟩
  refine wpAny_Call_Name_kw (ld_blt I hg hm (show bootBuiltins "sorted" = some (.builtin "sorted") by decide +kernel) ?_ (by decide) (by decide))
  refine PyProof.Rows.callWith_kw (thn (he.run pos pins s σ H _ I h) fun us s1 ⟨vs, H1, I1, r1, q1⟩ => ?_) hbk hpl
  obtain ⟨hT, q1⟩ := q1
  show wpAny _ _ (evalAll ((do let v ← eval (.Lambda params body scope lpos) X.env; standAt pos; pure v) :: [])) _ _ s1
  refine wpAny_evalAll_cons (wpAny_bind (lam_make2 I1 TB hcode hmT hu hT hdef (fun y hy e => absurd e (hnf y hy)) fun f c' pm ctv H2 s2 I2 eN T2 hf hfn hfr hco => wpAny_bind (wpAny_standAt (wpAny_pure (wpAny_evalAll_nil ?_)))))
  obtain ⟨l, as, ps, rfl, hl, hlen, hkey, q⟩ := q1 H2 eN T2
  obtain ⟨u, rfl, ru⟩ := r1.one
  obtain rfl : u = Value.ref l := ru
  rw [clo_nil hnf] at hf
  have nfr : f ≠ X.env.locals ∧ f ∉ X.fs := by
    have e : frs X.stack = X.env.locals :: X.fs := by
      rw [hs]
      show List.filterMap _ _ = _
      rw [List.filterMap_cons, hf0]
      rfl
    rw [e] at hfr
    exact ⟨fun z => hfr (by simp [z]), fun z => hfr (List.mem_cons_of_mem _ z)⟩
  have I3 : L2.Inv X (pins ++ [(f, PySem.W.kla_obj "<lambda>" (X.env.qual ++ "<lambda>") params body scope [] pm c' ctv)]) σ H2 s2 := I2.pins_of fun p hp => (List.mem_append.mp hp).elim (fun z => I2.pin p (List.mem_append_right _ z)) fun z => by
    rw [List.mem_singleton] at z
    subst z
    exact ⟨hf, hfn, nfr.1, nfr.2, fun v z => by cases z⟩
  have go := sort_keys (Q := Q) (f := f) I3 (by have := hr.r.un; omega) hl hlen (fun pn s b p hm J => ?_) q
  · refine wpAny_mono go (fun u s' hq => ?_) fun _ _ e => e
    obtain ⟨v, H', J, rv, hq⟩ := hq
    exact ⟨v, H', J.unpinned, rv, hq⟩
  · have hf' := (J.pin (f, PySem.W.kla_obj "<lambda>" (X.env.qual ++ "<lambda>") params body scope [] pm c' ctv) (by simp)).1
    have hr2 : Rm (k + 1) X.A.in1.in1 := (Rm.in1 (k := k + 1) (Rm.in1 (k := k + 2) (hr.mono (by omega))))
    have rc := lam_run1 (A := X.A.in1.in1) (v := .ref b) (Q := fun v H3 => H3 = H2 ∧ ∃ k, v = .ref k ∧ PtAt H2 k p) J.env0.in1.in1 hr2 S hf' hco (hbind _ _ _ _ (.ref b)) rfl (fun hr' => hbody _ _ _ _ _ _ hr') (hkey b p hm)
    refine wpAny_call (codeAny_mono rc fun r s' hq => ?_)
    match r, hq with
    | .ok (.ret u), hq =>
      obtain ⟨v, H', J', rv, rfl, kk, rfl, hp⟩ := J.after hq
      exact ⟨kk, rv, hp, J'⟩
end
end Ah

/-! a head over many classes: what the module's names reach is taken step by step, once; further looks at the state behind the top, each by a run of its own -/
namespace Ah
open PySem PySem.Spec PyProof.Rows L2 He HandSHeadRun
/-- a list, written out before it is used -/
def frL {α : Type} : List Nat → (List Nat → α) → α
  | [], k => k []
  | a :: r, k => frNat a fun a => frL r fun r => k (a :: r)
theorem frL_eq {α : Type} : ∀ (l : List Nat) (k : List Nat → α), frL l k = k l
  | [], _ => rfl
  | a :: r, k => by
    show (frNat a fun a => frL r fun r => k (a :: r)) = _
    rw [frNat_eq, frL_eq]
def frF {α : Type} : Frag → (Frag → α) → α
  | [], k => k []
  | (a, ⟨c, d, t, l⟩) :: r, k => frNat a fun a => frF r fun r => k ((a, ⟨c, d, t, l⟩) :: r)
theorem frF_eq {α : Type} : ∀ (l : Frag) (k : Frag → α), frF l k = k l
  | [], _ => rfl
  | (a, ⟨c, d, t, l⟩) :: r, k => by
    show (frNat a fun a => frF r fun r => k ((a, ⟨c, d, t, l⟩) :: r)) = _
    rw [frNat_eq, frF_eq]
/-- what a namespace holds -/
def nsV (g : Addr → Option Obj) (a : Addr) : List Addr := match g a with
  | some ⟨_, _, .dict es _, _⟩ => es.toList.flatMap fun e => refV e.val
  | _ => []
/-- a class's namespace; a def's code and defaults; what else an object's fields name -/
def stV (g : Addr → Option Obj) (a : Addr) : List Addr := match g a with
  | some ⟨_, _, .cls cd, _⟩ => [cd.ns]
  | some ⟨_, _, .func fd, _⟩ => refV fd.code ++ (refV fd.defaults ++ refV fd.kwdefaults)
  | _ => []
def fdV (g : Addr → Option Obj) (a : Addr) : List Addr := match g a with
  | some ⟨.type "property", _, .fields vs, _⟩ => vs.toList.flatMap refV
  | some ⟨_, _, .func fd, _⟩ => refV fd.code ++ (refV fd.defaults ++ refV fd.kwdefaults)
  | _ => []
def asS {α : Type} (g : Addr → Option Obj) (k : List Addr → α) : α :=
  frL (nsV g mainGlobals) fun l1 => frL (l1.flatMap (stV g)) fun l2 => frL (l2.flatMap (nsV g)) fun l3 => frL (l3.flatMap (fdV g)) fun l4 => frL (l4.flatMap (stV g)) fun l5 => k (mainGlobals :: (l1 ++ (l2 ++ (l3 ++ (l4 ++ l5)))))
def lsS (g : Addr → Option Obj) : List Addr := asS g fun l => l
theorem asS_eq {α : Type} (g : Addr → Option Obj) (k : List Addr → α) : asS g k = k (lsS g) := by
  unfold lsS asS
  simp only [frL_eq]
/-- the written part -/
abbrev fgS (g : Addr → Option Obj) : Frag := frT g (lsS g)
def obsSS (fa : List Fa) (ex : Frag → Bool) (fn : List DefG) (tf : List (Frag → Addr)) (g : Addr → Option Obj) : AlT := (obsG fa ex fn (fgS g), tabB g tf (fgS g))
/-- .. the quick way -/
def obsSF (fa : List Fa) (ex : Frag → Bool) (fn : List DefG) (tf : List (Frag → Addr)) (g : Addr → Option Obj) : AlT := asS g fun l => frF (frT g l) fun K => (obsG fa ex fn K, tabB g tf K)
theorem obsSF_eq (fa : List Fa) (ex : Frag → Bool) (fn : List DefG) (tf : List (Frag → Addr)) (g : Addr → Option Obj) : obsSF fa ex fn tf g = obsSS fa ex fn tf g := by
  unfold obsSF
  rw [asS_eq, frF_eq]
  rfl
theorem tabS_of {tf : List (Frag → Addr)} {as : List Addr} {h : Heap} (e : tabB h.get? tf (frT h.get? as) = true) : TabF tf h (frT h.get? as) := by
  have key : ∀ f ∈ tf, _ := fun f hf => ba (List.all_eq_true.mp e f hf)
  have tab : ∀ f ∈ tf, ∃ o, h.get? (cTA (frT h.get? as) f).2 = some o ∧ emptyTab o = true := fun f hf => by
    have z := (ba (key f hf).2).2
    cases q : h.get? (cTA (frT h.get? as) f).2 with
    | none =>
      rw [q] at z
      cases z
    | some o =>
      rw [q] at z
      exact ⟨o, rfl, z⟩
  exact ⟨fun f hf => of_decide_eq_true (key f hf).1, fun f hf => (ba (key f hf).2).1, fun f hf => by
    obtain ⟨o, q, z⟩ := tab f hf
    exact frT_none q z, fun f hf => by
    obtain ⟨o, q, z⟩ := tab f hf
    rw [q, emptyTab_eq z]⟩
def hookS (fa : List Fa) (ex : Frag → Bool) (fn : List DefG) (tf : List (Frag → Addr)) : PySem.W.Hook where
  α := AlT
  obs := fun s => obsSS fa ex fn tf s.heap.get?
  val := fun _ => (valG fn, true)
  says := fun _ h => ∃ K : Frag, K.In h ∧ SaysG fa ex fn K ∧ TabF tf h K
  of := fun _ _ e => ⟨_, frT_in, congrArg (fun z : AlT => z.1) e, tabS_of (congrArg (fun z : AlT => z.2) e)⟩
  keeps := fun _ _ _ ⟨K, hK, c, t⟩ k => ⟨K, PySem.W.Frag.In.keeps hK k, c, ⟨t.code, t.hd, t.out, fun f hf => k _ _ (t.empty f hf)⟩⟩
theorem obsSS_eq {fa : List Fa} {ex : Frag → Bool} {fn : List DefG} {tf : List (Frag → Addr)} {g : Addr → Option Obj} {s : Shared} (h : ∀ a, g a = s.heap.get? a) : obsSS fa ex fn tf g = (hookS fa ex fn tf).obs s := by
  have e : g = s.heap.get? := funext h
  rw [e] <;> rfl
theorem obsSF_ok {fa : List Fa} {ex : Frag → Bool} {fn : List DefG} {tf : List (Frag → Addr)} (s : PySem.W.SharedT) : obsSF fa ex fn tf (getT s) = (hookS fa ex fn tf).obs s.abs := by
  rw [obsSF_eq]
  exact obsSS_eq (getT_eq s)
/-- a look at the state behind the top -/
def LookEq (r : PySem.W.OpenRow) (ex : Frag → Bool) (M : Nat) (w : World) : Prop :=
  ∀ os : OsState, (endF (stepQ (denQ tabQ) r.prog w) M r.prog w os).map (fun s => asS (getT s) fun l => frF (frT (getT s) l) fun K => ex K) = some true
theorem run_more {r : PySem.W.OpenRow} {q : Program} {fa : List Fa} {ex1 ex2 : Frag → Bool} {fn : List DefG} {tf : List (Frag → Addr)} {M : Nat} {loose : List Str} {w : World}
    (h1 : RunEq r q (hookS fa ex1 fn tf) (fun s => obsSF fa ex1 fn tf (getT s)) M loose w) (h2 : LookEq r ex2 M w) :
    RunEq r q (hookS fa (fun K => ex1 K && ex2 K) fn tf) (fun s => obsSF fa (fun K => ex1 K && ex2 K) fn tf (getT s)) M loose w := by
  intro os
  have a := h1 os
  have b := h2 os
  obtain ⟨s, es, ea⟩ := Option.map_eq_some_iff.mp a
  rw [es] at b ⊢
  have b0 : (asS (getT s) fun l => frF (frT (getT s) l) fun K => ex2 K) = true := Option.some.inj b
  have b' : ex2 (fgS (getT s)) = true := by
    rw [asS_eq, frF_eq] at b0
    exact b0
  have e1 := congrArg (fun z => z.1) ea
  have e2 := congrArg (fun z => z.2.1) ea
  have e3 := congrArg (fun z => z.2.2) ea
  refine congrArg some ?_
  refine Prod.ext e1 (Prod.ext e2 ?_)
  have e4 : obsSF fa ex1 fn tf (getT s) = (valG fn, true) := e3
  show obsSF fa (fun K => ex1 K && ex2 K) fn tf (getT s) = (valG fn, true)
  rw [obsSF_eq] at e4 ⊢
  have e5 : obsG fa ex1 fn (fgS (getT s)) = valG fn := congrArg (·.1) e4
  have e6 : tabB (getT s) tf (fgS (getT s)) = true := congrArg (·.2) e4
  have e7 : ((fa.all fun f => f.ok (fgS (getT s))) && (ex1 (fgS (getT s)) && fn.all fun d => d.ok (fgS (getT s)))) = true := congrArg (·.1) e5
  have e8 : (fn.map fun d => fnG (fgS (getT s)) (d.ad (fgS (getT s)))) = fn.map DefG.val := congrArg (·.2) e5
  obtain ⟨f1, f2⟩ := ba e7
  obtain ⟨f2, f3⟩ := ba f2
  refine Prod.ext (Prod.ext ?_ e8) e6
  show ((fa.all fun f => f.ok _) && ((ex1 _ && ex2 _) && fn.all fun d => d.ok _)) = true
  rw [f1, f2, f3, b']
  rfl
theorem LookEq.and {r : PySem.W.OpenRow} {e1 e2 : Frag → Bool} {M : Nat} {w : World} (h1 : LookEq r e1 M w) (h2 : LookEq r e2 M w) : LookEq r (fun K => e1 K && e2 K) M w := by
  intro os
  have a := h1 os
  have b := h2 os
  obtain ⟨s, es, ea⟩ := Option.map_eq_some_iff.mp a
  rw [es] at b ⊢
  have b0 : (asS (getT s) fun l => frF (frT (getT s) l) fun K => e2 K) = true := Option.some.inj b
  rw [asS_eq, frF_eq] at ea b0
  refine congrArg some ?_
  show (asS (getT s) fun l => frF (frT (getT s) l) fun K => e1 K && e2 K) = true
  rw [asS_eq, frF_eq]
  show (e1 _ && e2 _) = true
  have ea' : e1 (frT (getT s) (lsS (getT s))) = true := ea
  have eb' : e2 (frT (getT s) (lsS (getT s))) = true := b0
  rw [ea', eb']
  rfl
/-- a look at defs -/
def LookV (r : PySem.W.OpenRow) (fn : List DefG) (M : Nat) (w : World) : Prop :=
  ∀ os : OsState, (endF (stepQ (denQ tabQ) r.prog w) M r.prog w os).map (fun s => asS (getT s) fun l => frF (frT (getT s) l) fun K => fn.map fun d => fnG K (d.ad K)) = some (fn.map DefG.val)
theorem LookV.app {r : PySem.W.OpenRow} {f1 f2 : List DefG} {M : Nat} {w : World} (h1 : LookV r f1 M w) (h2 : LookV r f2 M w) : LookV r (f1 ++ f2) M w := by
  intro os
  have a := h1 os
  have b := h2 os
  obtain ⟨s, es, ea⟩ := Option.map_eq_some_iff.mp a
  rw [es] at b ⊢
  have b0 : (asS (getT s) fun l => frF (frT (getT s) l) fun K => f2.map fun d => fnG K (d.ad K)) = f2.map DefG.val := Option.some.inj b
  rw [asS_eq, frF_eq] at ea b0
  refine congrArg some ?_
  show (asS (getT s) fun l => frF (frT (getT s) l) fun K => (f1 ++ f2).map fun d => fnG K (d.ad K)) = _
  rw [asS_eq, frF_eq]
  show (f1 ++ f2).map _ = (f1 ++ f2).map _
  rw [List.map_append, List.map_append]
  exact (congrArg (fun z : List FnW => z ++ _) ea).trans (congrArg (fun z : List FnW => _ ++ z) b0)
/-- the run without looks, and the looks -/
theorem run_of {r : PySem.W.OpenRow} {q : Program} {fa : List Fa} {ex : Frag → Bool} {fn : List DefG} {tf : List (Frag → Addr)} {M : Nat} {loose : List Str} {w : World}
    (h1 : RunEq r q (hookS [] (fun _ => true) [] tf) (fun s => obsSF [] (fun _ => true) [] tf (getT s)) M loose w) (h2 : LookEq r (fun K => (fa.all fun f => f.ok K) && (ex K && fn.all fun d => d.ok K)) M w) (h3 : LookV r fn M w) :
    RunEq r q (hookS fa ex fn tf) (fun s => obsSF fa ex fn tf (getT s)) M loose w := by
  intro os
  have a := h1 os
  have b := h2 os
  have c := h3 os
  obtain ⟨s, es, ea⟩ := Option.map_eq_some_iff.mp a
  rw [es] at b c ⊢
  have b0 : (asS (getT s) fun l => frF (frT (getT s) l) fun K => (fa.all fun f => f.ok K) && (ex K && fn.all fun d => d.ok K)) = true := Option.some.inj b
  have c0 : (asS (getT s) fun l => frF (frT (getT s) l) fun K => fn.map fun d => fnG K (d.ad K)) = fn.map DefG.val := Option.some.inj c
  rw [asS_eq, frF_eq] at b0 c0
  have e1 := congrArg (fun z => z.1) ea
  have e2 := congrArg (fun z => z.2.1) ea
  have e3 := congrArg (fun z => z.2.2) ea
  refine congrArg some ?_
  refine Prod.ext e1 (Prod.ext e2 ?_)
  have e4 : obsSF [] (fun _ => true) [] tf (getT s) = (valG [], true) := e3
  show obsSF fa ex fn tf (getT s) = (valG fn, true)
  rw [obsSF_eq] at e4 ⊢
  have e6 : tabB (getT s) tf (fgS (getT s)) = true := congrArg (·.2) e4
  refine Prod.ext (Prod.ext ?_ c0) e6
  exact b0
end Ah

/-! d.update(e), list(range(n)), two readings of one operator, tuples of the very same things -/
namespace Ah
open PySem PySem.Spec PyProof.Rows L2 He
section
variable {X : Cx}
def rUpdD : V → List V → Hp → VK → Prop := fun x ys H Q => ∃ (d o : Addr) (kvs more : List (Key × V)), x = .ref d ∧ ys = [.ref o] ∧ d ≠ o ∧ H d = some (.dK kvs) ∧ H o = some (.dK more) ∧ kvs.length + more.length ≤ sizeLine ∧ Q .non (upd H d (.dK (mergeK kvs more)))
theorem mt_updD : MtM X "dict.update" rUpdD := by
  intro pins s σ H x vs v us Q I rx rv h
  obtain ⟨d, o, kvs, more, rfl, rfl, ne, hd, ho, hz, q⟩ := h
  cases rx
  obtain ⟨u, rfl, ru⟩ := rv.one
  obtain rfl : u = Value.ref o := ru
  obtain ⟨z1, s1, ks, rel1, dd1⟩ := dk_of I.hok hd
  obtain ⟨z2, s2, ms, rel2, dd2⟩ := dk_of I.hok ho
  refine call_meetsIn PySem.F.slot_dict_update dd1.typeIs PySem.F.entry_dict_update (PySem.F.args_dict_update_2 _ _) (meets_dict_update (mixKind X.prog X.w) d o ne s2) ⟨ks, ms, dd1, dd2, by rw [← rel1.length, ← rel2.length]; exact hz, fun h' hd' ho' hs => ?_⟩
  have he : ∃ q, h'.get? d = some q := let ⟨q, _, _, hq, _⟩ := hd'; ⟨q, hq⟩
  have J := d_write (t' := s.toks) I (by rw [hd]; exact True.intro) hs he (dk_new (Nat.le_trans (length_mergeK more kvs) hz) s1 (KV.merge rel2 rel1) hd')
  exact ⟨.non, _, J, rfl, q⟩
theorem cr_range1 : CallR X (.type "range") (fun vs H Q => ∃ j, vs = [V.int j] ∧ ∀ p, H p = none → Q (.ref p) (upd H p (.rng 0 j))) := by
  intro pins s σ H vs us Q I r h
  obtain ⟨j, rfl, q⟩ := h
  obtain ⟨u1, rfl, rj⟩ := r.one
  obtain ⟨u, rfl⟩ := rj
  refine call_range_1 ⟨.ref s.heap.objs.size, upd H s.heap.objs.size (.rng 0 j), I.laid (t' := s.toks + 2) (fun b o e => Heap.get?_push_of_some _ e) (Nat.le_refl _) ?_, rfl, q _ (I.hok.fresh (Nat.le_refl _))⟩
  exact ⟨_, u, _, Heap.get?_push_size _ rfl⟩
theorem pairedOf {α β : Type} {R : α → β → Prop} : ∀ {xs : List α} {us : List β}, xs.length = us.length → (∀ (i : Nat) x u, xs[i]? = some x → us[i]? = some u → R x u) → Paired R xs us
  | [], [], _, _ => .nil
  | x :: xs, u :: us, hl, h => .cons (h 0 x u rfl rfl) (pairedOf (by simpa using hl) fun i y w hy hw => h (i + 1) y w (by simpa using hy) (by simpa using hw))
  | [], _ :: _, hl, _ => by simp at hl
  | _ :: _, [], hl, _ => by simp at hl
/-- 0, 1, .. -/
def countV (n : Nat) : List V := (List.range n).map fun (i : Nat) => V.int (i : Int)
theorem countV_len (n : Nat) : (countV n).length = n := by simp [countV]
theorem call_listRng (hc : X.calm = true) : CallR X (.type "list") (fun xs H Q => ∃ (a : Addr) (n : Nat), xs = [.ref a] ∧ H a = some (.rng 0 (n : Int)) ∧ n ≤ 1000000 ∧ ∀ p, H p = none → Q (.ref p) (upd H p (.lst (countV n)))) := by
  intro pins s σ H xs us Q I r h
  obtain ⟨a, n, rfl, ha, hn, q⟩ := h
  obtain ⟨u, rfl, rx⟩ := vals1 r
  cases rx
  obtain ⟨t, u, v, e⟩ := I.hok a _ ha
  refine call_list_range (n := n) (I.ok.hd hc) e ?_ ?_ (by omega) fun h' tk acc' c' hk hS hacc => ?_
  · unfold Builtin.Range.small Builtin.Range.rangeSize Builtin.Range.rangeFitsLong
    simp only [Bool.and_eq_true, Bool.or_eq_true, decide_eq_true_eq, beq_iff_eq]
    by_cases h0 : (0 : Int) < (n : Int)
    · simp [h0]
      omega
    · simp [h0]
      omega
  · unfold Builtin.Range.rangeSize
    rw [if_pos (by decide)]
    split <;> omega
  · have ev : Vals (countV n) acc'.toList := by
      refine pairedOf (by rw [countV_len]; exact hacc.1.symm) fun i x u hx hu => ?_
      obtain ⟨t, rfl⟩ := hacc.2 i u (by rw [← Array.getElem?_toList]; exact hu)
      unfold countV at hx
      rw [List.getElem?_map] at hx
      cases e2 : (List.range n)[i]? with
      | none =>
        rw [e2] at hx
        cases hx
      | some k =>
        rw [e2] at hx
        cases hx
        have hi := (List.getElem?_eq_some_iff.mp e2)
        obtain ⟨h1, h2⟩ := hi
        rw [List.getElem_range] at h2
        subst h2
        exact ⟨t, by simp⟩
    refine ⟨.ref s.heap.objs.size, _, I.laid (t' := tk) hk (Nat.le_refl _) (show ObjOk X.prog X.w _ h' _ (.lst (countV n)) from ⟨by rw [countV_len, sizeLine_eq]; omega, acc'.toList, c', ev, by simpa using hS⟩), rfl, q _ (I.hok.fresh (Nat.le_refl _))⟩
/-- one of two readings -/
theorem OpR.or {f : Value → Value → Sem Value} {r1 r2 : R2} (h1 : OpR X f r1) (h2 : OpR X f r2) : OpR X f (fun x y H Q => r1 x y H Q ∨ r2 x y H Q) := by
  intro pins s σ H x y v u Q I rx ry h
  rcases h with h | h
  · exact h1 pins s σ H x y v u Q I rx ry h
  · exact h2 pins s σ H x y v u Q I rx ry h
/-- a == b, tuples of the very same things -/
def rEqTS (K : Frag) : R2 := fun x y H Q => ∃ a b xs, x = .ref a ∧ y = .ref b ∧ SqT K H a xs ∧ SqT K H b xs ∧ (∀ v ∈ xs, flatB v = true ∨ ∃ c, v = .ref c) ∧ Q (.bl true) H
theorem op_eqTS (hu : X.A.units + 64 < cLine) : OpR X (compareOp .Eq) (rEqTS X.K) := by
  intro pins s σ H x y v u Q I rx ry h
  obtain ⟨a, b, xs, rfl, rfl, ha, hb, hx, q⟩ := h
  cases (show v = Value.ref a from rx)
  cases (show u = Value.ref b from ry)
  obtain ⟨us, r1, p1, _⟩ := I.tuple ha
  obtain ⟨ws, r2, p2, _⟩ := I.tuple hb
  have hsz : us.toArray.size = ws.toArray.size := by
    rw [List.size_toArray, List.size_toArray, ← r1.length, ← r2.length]
  refine SeqAt.RcAt.tuples (A := X.A) (e := fun _ => true) p1 p2 (by omega) (fun j h1 h2 => ?_) X.prog X.w _ _ ?_
  · have h1' : j < us.length := by simpa using h1
    have h2' : j < ws.length := by simpa using h2
    have h0 : j < xs.length := by rw [r1.length]; exact h1'
    obtain ⟨u1, e1, q1⟩ := r1.get (List.getElem?_eq_getElem h0)
    obtain ⟨u2, e2, q2⟩ := r2.get (List.getElem?_eq_getElem h0)
    rw [List.getElem?_eq_getElem h1'] at e1
    rw [List.getElem?_eq_getElem h2'] at e2
    cases e1
    cases e2
    rw [List.getElem_toArray, List.getElem_toArray]
    generalize us[j] = u1 at q1 ⊢
    generalize ws[j] = u2 at q2 ⊢
    rcases hx _ (List.getElem_mem h0) with f | ⟨c, e⟩
    · exact eqAt_same q1 q2 f
    · rw [e] at q1 q2
      cases (show u1 = Value.ref c from q1)
      cases (show u2 = Value.ref c from q2)
      exact SeqAt.EqAt.same _
  · have e : ((List.range (min us.toArray.size ws.toArray.size)).all (fun _ => true) && us.toArray.size == ws.toArray.size) = true := by
      rw [hsz]
      simp
    rw [e]
    exact ⟨.bl true, H, I, rfl, q⟩
/-- l != m, two lists of the very same things -/
def rNeSV (K : Frag) : R2 := fun x y H Q => ∃ a b xs, x = .ref a ∧ y = .ref b ∧ H a = some (.lst xs) ∧ H b = some (.lst xs) ∧ (∀ v ∈ xs, flatB v = true ∨ ∃ c, v = .ref c) ∧ Q (.bl false) H
theorem op_neSV (hu : X.A.units + 64 < cLine) : OpR X (compareOp .NotEq) (rNeSV X.K) := by
  intro pins s σ H x y v u Q I rx ry h
  obtain ⟨a, b, xs, rfl, rfl, ha, hb, hx, q⟩ := h
  cases (show v = Value.ref a from rx)
  cases (show u = Value.ref b from ry)
  obtain ⟨us, r1, p1, _⟩ := I.list (SqL.of (K := X.K) ha)
  obtain ⟨ws, r2, p2, _⟩ := I.list (SqL.of (K := X.K) hb)
  have hsz : us.toArray.size = ws.toArray.size := by
    rw [List.size_toArray, List.size_toArray, ← r1.length, ← r2.length]
  have z := SeqAt.RcNeAt.lists (A := X.A) (e := fun _ => true) p1.isList p2.isList hsz (by omega) fun j h1 h2 => ?_
  · refine z X.prog X.w _ _ ?_
    have e : (!(List.range us.toArray.size).all fun _ => true) = false := by simp
    rw [e]
    exact ⟨.bl false, H, I, rfl, q⟩
  · have h1' : j < us.length := by simpa using h1
    have h2' : j < ws.length := by simpa using h2
    have h0 : j < xs.length := by rw [r1.length]; exact h1'
    obtain ⟨u1, e1, q1⟩ := r1.get (List.getElem?_eq_getElem h0)
    obtain ⟨u2, e2, q2⟩ := r2.get (List.getElem?_eq_getElem h0)
    rw [List.getElem?_eq_getElem h1'] at e1
    rw [List.getElem?_eq_getElem h2'] at e2
    cases e1
    cases e2
    rw [List.getElem_toArray, List.getElem_toArray]
    generalize us[j] = u1 at q1 ⊢
    generalize ws[j] = u2 at q2 ⊢
    rcases hx _ (List.getElem_mem h0) with f | ⟨c, e⟩
    · exact eqAt_same q1 q2 f
    · rw [e] at q1 q2
      cases (show u1 = Value.ref c from q1)
      cases (show u2 = Value.ref c from q2)
      exact SeqAt.EqAt.same _
end
end Ah

/-! tuple(list), the object known; dict(tuple of pairs) -/
namespace Ah
open PySem PySem.Spec PyProof.Rows L2 He
/-- a tuple whose object has no dict -/
def FzT (H : Hp) (a : Addr) (xs : List V) : Prop := ∃ o : Obj, o.cls = .type "tuple" ∧ o.dict = none ∧ H a = some (.frz o (.tup xs))
theorem FzT.sq {K : Frag} {H : Hp} {a : Addr} {xs : List V} (h : FzT H a xs) : SqT K H a xs := by
  obtain ⟨o, _, _, e⟩ := h
  exact .inl (.inr ⟨o, e⟩)
theorem FzT.same {H H' : Hp} {a : Addr} {xs : List V} (h : FzT H a xs) (s : Same H H') : FzT H' a xs := by
  obtain ⟨o, c, d, e⟩ := h
  exact ⟨o, c, d, s _ _ e⟩
section
variable {X : Cx}
theorem call_tupleFz : CallR X (.type "tuple") (fun xs H Q => ∃ p ys, xs = [.ref p] ∧ SqL X.K H p ys ∧ ∀ G l, Same H G → H l = none → FzT G l ys → Q (.ref l) G) := by
  intro pins s σ H xs us Q I r h
  obtain ⟨p, ys, rfl, hq, q⟩ := h
  obtain ⟨u, rfl, rx⟩ := vals1 r
  cases rx
  obtain ⟨its, r', pl, hz⟩ := I.list hq
  have hlen := r'.length
  refine call_tuple_list pl.isList (fun h' kp => ?_) (by simp only [List.size_toArray] <;> omega)
  have I1 : Inv X pins σ H { s with heap := h' } := I.kept (t' := s.toks) kp
  have nf := I1.hok.fresh (Nat.le_refl _)
  have I2 : Inv X pins σ (upd H h'.objs.size (.frz { cls := .type "tuple", data := .seq its.toArray } (.tup ys))) { s with heap := h'.push { cls := .type "tuple", data := .seq its.toArray } } :=
    I1.laid (t' := s.toks) (fun b o e => Heap.get?_push_of_some _ e) (Nat.le_refl _) (show ObjOk X.prog X.w _ _ _ (.frz _ (.tup ys)) from ⟨Heap.get?_push_size _ rfl, hz, its, r', IsTup.new _ _⟩)
  exact ⟨.ref h'.objs.size, _, I2, rfl, q _ _ (Same.upd (Same.refl _) nf) nf ⟨_, rfl, rfl, upd_same⟩⟩
theorem pairs_of2 {pins : List (Addr × Obj)} {σ : L2.St} {H : Hp} {s : Shared} (I : Inv X pins σ H s) : ∀ {ps : List Addr} {kvs : List (Key × V)}, Paired (fun p kv => SqT X.K H p [kV kv.1, kv.2]) ps kvs →
    ∃ (us : List (Value × Value)) (prs : List (Key × Value)), KV kvs prs ∧ us.length = ps.length ∧ prs.length = ps.length ∧ ∀ (j : Nat) k v, us[j]? = some (k, v) → ∃ b : Addr, ps[j]? = some b ∧ IsTup s.heap b #[k, v] ∧ ∃ key : Key, prs[j]? = some (key, v) ∧ keyIs key k = true
  | _, _, .nil => ⟨[], [], .nil, rfl, rfl, fun j k v e => by simp at e⟩
  | _, _, .cons (a := p) (b := kv) h t => by
    obtain ⟨us, prs, r, hu, hl, hp⟩ := pairs_of2 I t
    obtain ⟨its, rv, ht, _⟩ := I.tuple h
    obtain ⟨u, y, ei, ru, ry⟩ := vals2 rv
    subst ei
    refine ⟨(u, y) :: us, (kv.1, y) :: prs, .cons ⟨rfl, ry⟩ r, by rw [List.length_cons, List.length_cons, hu], by rw [List.length_cons, List.length_cons, hl], fun j k v e => ?_⟩
    cases j with
    | zero =>
      have e' : (u, y) = (k, v) := Option.some.inj e
      cases e'
      exact ⟨p, rfl, ht, kv.1, rfl, kV_is (P := X.prog) (w := X.w) ru⟩
    | succ j =>
      obtain ⟨b, e1, e2, key, e3, e4⟩ := hp j k v (by simpa using e)
      exact ⟨b, by simpa using e1, e2, key, by simpa using e3, e4⟩
theorem call_dictFz (hcalm : X.calm = true) : CallR X (.type "dict") (fun xs H Q => ∃ (a : Addr) (ps : List Addr) (kvs : List (Key × V)), xs = [.ref a] ∧ FzT H a (ps.map V.ref) ∧ Paired (fun p kv => SqT X.K H p [kV kv.1, kv.2]) ps kvs ∧
    ∀ p, H p = none → Q (.ref p) (upd H p (.dK (mergeK [] kvs)))) := by
  intro pins s σ H xs us Q I r q
  obtain ⟨a, ps, kvs, ex, hq, hp, q⟩ := q
  subst ex
  obtain ⟨u, eu, rx⟩ := vals1 r
  subst eu
  cases rx
  obtain ⟨o, oc, od, ho⟩ := hq
  obtain ⟨hg, hz, its, rv, o', ho', hc', n, hdat⟩ := I.hok a _ ho
  rw [hg] at ho'
  cases ho'
  have ei := refs_at rv
  subst ei
  rw [List.length_map] at hz
  obtain ⟨us, prs, rel, hu, hl, hpr⟩ := pairs_of2 I hp
  refine PySem.call_dict_pairs (knd := mixKind X.prog X.w) (kvs := prs) (PairArg.tuple a (ps.map Value.ref).toArray (fun j => ps.getD j 0) us) (I.ok.hd hcalm) ⟨⟨o, n, hg, oc, od, hdat⟩, by simp [hu], fun j k v e => ?_⟩ ⟨by rw [hl, hu], fun j key v e => ?_⟩ (by rw [hu]; exact hz) fun h' tk hd' k => ?_
  · obtain ⟨b, e1, e2, _⟩ := hpr j k v e
    refine ⟨by simp [e1], .inl ?_⟩
    show s.heap.IsTuple (ps.getD j 0) _
    rw [show ps.getD j 0 = b by simp [List.getD_eq_getElem?_getD, e1]]
    exact e2
  · obtain ⟨b, _, _, k, e3, e4⟩ := hpr j key v e
    exact ⟨k, e3, e4⟩
  · have hm : (s.heap.objs.size == sysModules) = false := beq_eq_false_iff_ne.mpr (Nat.ne_of_gt I.big)
    have hlen : (mergeK [] kvs).length ≤ sizeLine := by
      refine Nat.le_trans (length_mergeK kvs []) ?_
      rw [List.length_nil, Nat.zero_add, rel.length, hl]
      exact hz
    exact ⟨.ref s.heap.objs.size, upd H s.heap.objs.size (.dK (mergeK [] kvs)), I.laid (t' := tk) (fun b o e => k b o (by simp) e) (Nat.le_refl _) (show ObjOk X.prog X.w _ _ _ (.dK (mergeK [] kvs)) from ⟨hlen, hm, merged [] prs, KV.merge rel .nil, hd'⟩), rfl, q _ (I.hok.fresh (Nat.le_refl _))⟩
/-- f(e, ..), what leaves it is told together with the slots -/
def tCallW (sp : Sp) (W : WX) (t : TA) : TE := fun σ H Q => t σ H fun vs H1 => sp vs H1 Q (fun cls d H' => W cls d σ H')
theorem pe_cFW {k j : Nat} {f : Addr} {sp : Sp} {W : WX} {x : Str} {e : Expr} {es : List Expr} {t : TA} {p pos : Pos} (F : FnB X.prog X.w X.K X.mg X.base k f sp) (hr : Rm j X.A) (hm : X.mg x = some (.ref f)) (tk : Takes X W) (ha : PA X (e :: es) t) (hk : k ≤ j := by decide) (hg : Gl X x := by rfl)
    (hdb : (x == ("__debug__" : Str)) = false := by decide) (he : starEach (e :: es) X.env = (false, eval e X.env) :: starEach es X.env := by rfl) (hpl : (backTo pos (starEach es X.env)).any (·.1) = false := by rfl) :
    PE X (.Call (.Name x p) (e :: es) [] pos) (tCallW sp W t) := by
  refine ⟨fun pins s σ H Q I h => wpAny_Call_Name_kw (ld_glob I hg hm ?_ hdb)⟩
  refine PySem.W.callWith_K (h₀ := X.base) I.ok.mod.kin F.kp (thn (ha.run pos pins s σ H _ I h) fun us s1 ⟨vs, H1, I1, r, q⟩ => ⟨I1.kIn, ?_⟩) he hpl
  refine wpAny_call (codeAny_mono (F.run _ X.stack s1 H1 us vs Q _ (hr.mono hk) I1.env0 r q) fun res s' hq => ?_)
  match res, hq with
  | .error e, hq => exact tk e s' (XE.of_call I1 (fun cls d H' h => h) hq)
  | .ok (.ret u), hq => exact I1.after hq
theorem maxL1_num {prog : Program} {w : World} {A : Around} {E : Value → Shared → Prop} {s : Shared} {l : Addr} {Q : Value → Shared → Prop} {a : Value} (hh : A.handled = none) (hl : s.heap.IsList l #[a]) (ha : Flt.NumV a)
    (h : ∀ h' tk, (∀ d o, s.heap.get? d = some o → h'.get? d = some o) → Q a { s with heap := h', toks := tk }) : wpAny (model prog w) A (call (.builtin "max") [.ref l]) Q E s := by
  refine call_max_walk (iter_anyList hl fun s₂ e st hfp hlI => ?_)
  subst e
  refine ⟨_, _, _, _, _, _, _, rfl, Walks.list (A := A.in1) hh _ l hlI #[a], st, hfp, by simp, Flt.cmpOf_gt #[a] (by simp [ha]), fun v h' tk hP hk => ?_⟩
  have := h h' tk (PySem.old_kept hk)
  have hv : a = v := by simpa [argBest] using hP
  rw [hv] at this
  exact this
theorem maxL2_num {prog : Program} {w : World} {A : Around} {E : Value → Shared → Prop} {s : Shared} {l : Addr} {Q : Value → Shared → Prop} {a b : Value} (hh : A.handled = none) (hl : s.heap.IsList l #[a, b]) (ha : Flt.NumV a) (hb : Flt.NumV b)
    (h : ∀ h' tk, (∀ d o, s.heap.get? d = some o → h'.get? d = some o) → Q (if Flt.ltV a b = true then b else a) { s with heap := h', toks := tk }) : wpAny (model prog w) A (call (.builtin "max") [.ref l]) Q E s := by
  refine call_max_walk (iter_anyList hl fun s₂ e st hfp hlI => ?_)
  subst e
  refine ⟨_, _, _, _, _, _, _, rfl, Walks.list (A := A.in1) hh _ l hlI #[a, b], st, hfp, by simp, Flt.cmpOf_gt #[a, b] (by simp [ha, hb]), fun v h' tk hP hk => ?_⟩
  have := h h' tk (PySem.old_kept hk)
  have hv : (if Flt.ltV a b = true then b else a) = v := by
    cases h1 : Flt.ltV a b <;> simp [argBest, h1] at hP <;> simp <;> exact hP
  rw [hv] at this
  exact this
/-- max of a list of one or two ints -/
theorem call_maxI (hc : X.calm = true) : CallR X (.builtin "max") (fun xs H Q => ∃ p, xs = [V.ref p] ∧ ((∃ i, SqL X.K H p [.int i] ∧ Q (.int i) H) ∨ ∃ i j, SqL X.K H p [.int i, .int j] ∧ Q (.int (if i < j then j else i)) H)) := by
  intro pins s σ H vs us Q I r h
  obtain ⟨p, rfl, h⟩ := h
  rw [Vals.ref1 r]
  rcases h with ⟨i, hs, q⟩ | ⟨i, j, hs, q⟩
  · obtain ⟨its, rv, hl, _⟩ := I.list hs
    obtain ⟨u, rfl, ru⟩ := rv.one
    obtain ⟨t, rfl⟩ := ru
    exact maxL1_num (I.ok.hd hc) hl.isList (.int _ _) fun h' tk k => ⟨.int i, H, I.kept k, ⟨t, rfl⟩, q⟩
  · obtain ⟨its, rv, hl, _⟩ := I.list hs
    obtain ⟨u1, u2, rfl, r1, r2⟩ := vals2 rv
    obtain ⟨t1, rfl⟩ := r1
    obtain ⟨t2, rfl⟩ := r2
    refine maxL2_num (I.ok.hd hc) hl.isList (.int _ _) (.int _ _) fun h' tk k => ⟨_, H, I.kept k, ?_, q⟩
    show L2.RelV (V.int (if i < j then j else i)) (if decide (i < j) = true then Value.int j t2 else Value.int i t1)
    by_cases e : i < j
    · rw [if_pos e, if_pos (decide_eq_true e)]
      exact ⟨t2, rfl⟩
    · rw [if_neg e, if_neg (by simpa using e)]
      exact ⟨t1, rfl⟩
end
end Ah

/-! the items of a dict, a name as the target: the tuple that went out before may still be there -/
namespace Ah
open PySem PySem.Spec PySem.W PyProof.Rows L2 He
section
variable {prog : Program} {w : World} {KT : Type} [DecidableEq KT] {knd : KeyKind prog w KT} {A : Around} {E : Value → Shared → Prop} {s : Shared}
theorem alive_any {a : Addr} {Q : Option Obj → Shared → Prop} (h : Q (s.heap.get? a) s) : wpAny (model prog w) A (loadIfAlive a) Q E s := fun _ _ _ => h
/-- one more item; whether the tuple of the turn before is still there is open -/
theorem next_items {it d a : Addr} {f : Bool} {i ep : Nat} {kvs : List (KT × Value)} {k : KT} {v ok ov : Value} {Q : Option Value → Shared → Prop} (hit : KdxIt s.heap it d i kvs.length ep ok ov a f) (hai : a ≠ it)
    (hm : s.heap.DictAt knd d kvs ep) (hx : kvs[i]? = some (k, v))
    (hQ : ∀ key h', knd.is k key = true → (∃ ok' ov' a' f', KdxIt h' it d (i + 1) kvs.length ep ok' ov' a' f' ∧ a' ≠ it) →
      h'.get? s.heap.objs.size = some { cls := .type "tuple", data := .seq #[key, v] } → h'.objs.size = s.heap.objs.size + 1 →
      (∀ b o, b ≠ it → s.heap.get? b = some o → h'.get? b = some o) → Q (some (.ref s.heap.objs.size)) { s with heap := h' }) :
    wpAny (model prog w) A (pyNext (.ref it)) Q E s := by
  cases ha : s.heap.get? a with
  | some oa => exact kdx_next_out hit ha hai hm hx fun key h' k1 k2 => hQ key h' k1 ⟨_, _, _, _, k2, hai⟩
  | none =>
    obtain ⟨hp, g, dr, tk, os⟩ := s
    obtain ⟨od, es, hod, hcd, hdd, hk, hpr, hn⟩ := id hm
    have hT : Shared.TypeIs ⟨hp, g, dr, tk, os⟩ (.ref it) "dict_itemiterator" := ⟨_, hit, rfl⟩
    have own1 : Builtin.Dict_items.ownsTuple "dict_itemiterator" = true := by decide
    have nilD : ¬ ((Value.ref d == Value.none) = true) := Bool.false_ne_true
    have hsz : es.size = kvs.length := by
      have := hpr.length
      simpa using this
    obtain ⟨hlt, _⟩ := List.getElem?_eq_some_iff.mp hx
    have hi : i < es.size := by omega
    obtain ⟨hkey, hval⟩ := hpr.get? (e := es[i]) (by simp [hi]) hx
    unfold pyNext
    refine wpAny_bind (wpAny_attempt (wpAny_callSpecial?_slot (name := Str.ofString "__next__") hT F.slot_dict_itemiterator_next (wpAny_call_entry F.slot_dict_itemiterator_next hT F.entry_dict_itemiterator_next ?_ (F.args_dict_itemiterator_next_1 _))))
    refine wpAny_bind (wpAny_pure (wpAny_bind (wpAny_bind ?_)))
    first | refine wpAny_bind (wpAny_typeNameOfWhole_itemiter hT (wpAny_pure ?_)) | refine wpAny_bind (wpAny_typeNameOf_itemiter hT (wpAny_pure ?_))
    refine wpAny_bind (wpAny_fieldsOf hit rfl ?_)
    simp only [own1, if_true]
    show wpAny _ _ (if (Value.ref d == Value.none) = true then _ else _) _ _ _
    rw [if_neg nilD]
    refine wpAny_bind (wpAny_pure (wpAny_bind (wpAny_dictEntries hod hdd ?_)))
    rw [if_neg (by rw [hsz]; simp)]
    refine wpAny_bind (wpAny_pure (wpAny_bind (wpAny_dictEpoch hod hdd ?_)))
    rw [if_neg (by simp)]
    refine wpAny_pure ?_
    simp only [show ¬ ((i : Int) < 0) by omega, if_false, Int.toNat_natCast, Array.getElem?_eq_getElem hi]
    refine wpAny_bind ?_
    first | refine wpAny_bind (wpAny_typeNameOfWhole_itemiter hT (wpAny_pure ?_)) | refine wpAny_bind (wpAny_typeNameOf_itemiter hT (wpAny_pure ?_))
    refine wpAny_bind (wpAny_isOneOf_itemiter hT ?_)
    show wpAny _ _ (setField (.ref it) 3 (rawInt ((i : Int) + 1)) >>= _) _ _ ⟨hp, g, dr, tk, os⟩
    refine wpAny_bind (wpAny_setField_rec hit (by simp) fun h1 e1 s1 => ?_)
    replace s1 : Heap.SameBut it hp h1 := s1
    replace e1 : KdxIt h1 it d (i + 1) kvs.length ep ok ov a f := by
      have e : ((i + 1 : Nat) : Int) = (i : Int) + 1 := by omega
      unfold KdxIt
      rw [e]
      simpa [rawInt] using e1
    have hT1 : Shared.TypeIs ⟨h1, g, dr, tk, os⟩ (.ref it) "dict_itemiterator" := ⟨_, e1, rfl⟩
    refine wpAny_bind (wpAny_holding (wpAny_bind (wpAny_isOneOf_itemiter hT1 ?_)))
    refine wpAny_bind (wpAny_isOneOf_itemiter hT1 ?_)
    show wpAny _ _ (Builtin.Dict_items.pairFromOwner (.ref it) 6 es[i].key es[i].val) _ _ ⟨h1, g, dr, tk, os⟩
    unfold Builtin.Dict_items.pairFromOwner
    refine wpAny_bind (wpAny_newTuple ?_)
    have e2 : KdxIt (h1.push { cls := .type "tuple", data := .seq #[es[i].key, es[i].val] }) it d (i + 1) kvs.length ep ok ov a f := Heap.get?_push_of_some _ e1
    generalize hh : h1.push { cls := .type "tuple", data := .seq #[es[i].key, es[i].val] } = h2 at e2
    have z1 : h1.objs.size = hp.objs.size := s1.1
    have il : it < hp.objs.size := Heap.lt_size hit
    have t2 : h2.get? hp.objs.size = some { cls := .type "tuple", data := .seq #[es[i].key, es[i].val] } := by
      rw [← hh, ← z1]
      exact Heap.get?_push_size _ rfl
    have z2 : h2.objs.size = hp.objs.size + 1 := by rw [← hh, Heap.size_push, z1]
    have k2 : ∀ b o, b ≠ it → hp.get? b = some o → h2.get? b = some o := fun b o hb e => by
      rw [← hh]
      exact Heap.get?_push_of_some _ (s1.extBut b o hb e)
    show wpAny _ _ (Builtin.Dict_items.ownedTupleIsFree (.ref it) >>= _) _ _ ⟨h2, g, dr, tk, os⟩
    rw [z1]
    clear hh e1 s1 hT1 z1 h1
    refine wpAny_bind ?_
    unfold Builtin.Dict_items.ownedTupleIsFree
    refine wpAny_bind (wpAny_field e2 rfl (x := rawInt a) rfl ?_)
    show wpAny _ _ (loadIfAlive ((a : Int).toNat) >>= _) _ _ _
    rw [Int.toNat_natCast]
    refine wpAny_bind (alive_any ?_)
    have fin : ∀ h3 : Heap, (∃ ok' ov' a' f', KdxIt h3 it d (i + 1) kvs.length ep ok' ov' a' f' ∧ a' ≠ it) → Heap.SameBut it h2 h3 → Q (some (.ref hp.objs.size)) ⟨h3, g, dr, tk, os⟩ := fun h3 x s3 =>
      hQ es[i].key h3 hkey x (by rw [← hval]; exact s3.extBut _ _ (Nat.ne_of_gt il) t2) (by show h3.objs.size = hp.objs.size + 1; rw [s3.1, z2]) fun b o hb e => s3.extBut b o hb (k2 b o hb e)
    have nsz : hp.objs.size ≠ it := Nat.ne_of_gt il
    cases ha2 : (⟨h2, g, dr, tk, os⟩ : Shared).heap.get? a with
    | some oa =>
      simp only [Option.isNone_some, Bool.false_eq_true, if_false]
      refine wpAny_bind (wpAny_field e2 rfl (x := .bool f) rfl ?_)
      cases f with
      | true =>
        rw [if_neg (show ¬ ((Value.bool true != Value.bool true) = true) from Bool.false_ne_true)]
        refine wpAny_pure ?_
        simp only [Bool.false_eq_true, if_false]
        exact wpAny_pure (wpAny_pure ⟨_, rfl, wpAny_pure (fin h2 ⟨_, _, _, _, e2, hai⟩ (Heap.SameBut.refl _ _))⟩)
      | false =>
        rw [if_pos (show (Value.bool false != Value.bool true) = true from rfl)]
        refine wpAny_bind (wpAny_setField_rec e2 (by simp) fun h3 e3 s3 => ?_)
        replace s3 : Heap.SameBut it h2 h3 := s3
        replace e3 : KdxIt h3 it d (i + 1) kvs.length ep ok ov a true := e3
        refine wpAny_pure ?_
        simp only [Bool.false_eq_true, if_false]
        exact wpAny_pure (wpAny_pure ⟨_, rfl, wpAny_pure (fin h3 ⟨_, _, _, _, e3, hai⟩ s3)⟩)
    | none =>
      simp only [Option.isNone_none, if_true]
      refine wpAny_pure ?_
      simp only [if_true]
      refine wpAny_bind (wpAny_field e2 rfl (x := ok) rfl (wpAny_bind (wpAny_field e2 rfl (x := ov) rfl ?_)))
      refine wpAny_bind (wpAny_setField_rec e2 (by simp) fun h3 e3 s3 => ?_)
      replace s3 : Heap.SameBut it h2 h3 := s3
      replace e3 : KdxIt h3 it d (i + 1) kvs.length ep es[i].key ov a f := e3
      refine wpAny_bind (wpAny_setField_rec e3 (by simp) fun h4 e4 s4 => ?_)
      replace s4 : Heap.SameBut it h3 h4 := s4
      replace e4 : KdxIt h4 it d (i + 1) kvs.length ep es[i].key es[i].val a f := e4
      refine wpAny_bind (wpAny_setField_rec e4 (by simp) fun h5 e5 s5 => ?_)
      replace s5 : Heap.SameBut it h4 h5 := s5
      replace e5 : KdxIt h5 it d (i + 1) kvs.length ep es[i].key es[i].val hp.objs.size f := e5
      refine wpAny_bind (wpAny_setField_rec e5 (by simp) fun h6 e6 s6 => ?_)
      replace s6 : Heap.SameBut it h5 h6 := s6
      replace e6 : KdxIt h6 it d (i + 1) kvs.length ep es[i].key es[i].val hp.objs.size false := e6
      refine wpAny_bind (wpAny_letGo (wpAny_pure (wpAny_pure ⟨_, rfl, wpAny_pure (fin h6 ⟨_, _, _, _, e6, nsz⟩ ?_)⟩)))
      exact ((s3.trans s4).trans s5).trans s6
end
section
variable {P : Program} {w : World} {K : Frag} {d : Addr} {o : Obj} {es : Array DictEntry} {ep : Nat} {x : Str} {p : Pos}
theorem turn_itemsN {kvs : List (Key × V)} (it : Addr) (hod : o.data = .dict es ep) :
    Turn P w K (.Name x p) (Iti d o kvs) [it] it (fun i h => (∃ ok ov, IsItemIter h it d i kvs.length ep ok ov) ∨ ∃ ok ov a f, KdxIt h it d i kvs.length ep ok ov a f ∧ a ≠ it) where
  mem := by simp
  obj := fun i h st b hb => by
    have e : b = it := by simpa using hb
    subst e
    rcases st with ⟨ok, ov, e⟩ | ⟨ok, ov, a, f, e, _⟩
    · exact ⟨_, e, fun v z => nomatch z⟩
    · exact ⟨_, e, fun v z => nomatch z⟩
  keep := fun i h h' st k => by
    rcases st with ⟨ok, ov, e⟩ | ⟨ok, ov, a, f, e, n⟩
    · exact .inl ⟨ok, ov, k it (by simp) _ e⟩
    · exact .inr ⟨ok, ov, a, f, k it (by simp) _ e, n⟩
  item := by
    intro X hP hw hK hc i pins s σ H E I hf st hg
    subst hP hw hK
    obtain ⟨hd, hi⟩ := hg
    obtain ⟨hs, hgd, hx, es', ep', vs, hdt, hsz, kv, hm⟩ := I.frzK hd
    obtain ⟨rfl, rfl⟩ := dict_ep hod hdt
    obtain ⟨⟨k, v⟩, hkv⟩ : ∃ p, kvs[i]? = some p := ⟨kvs[i], List.getElem?_eq_getElem hi⟩
    obtain ⟨u, hu, ru⟩ := kv_get kv hkv
    have hl : kvs.length = vs.length := Paired.length kv
    have hlt : it < s.heap.objs.size := by
      rcases st with ⟨_, _, e⟩ | ⟨_, _, _, _, e, _⟩
      · exact Heap.lt_size e
      · exact Heap.lt_size e
    have fin : ∀ (key : Value) (h' : Heap), (mixKind X.prog X.w).is k key = true → (∃ ok' ov' a' f', KdxIt h' it d (i + 1) kvs.length ep' ok' ov' a' f' ∧ a' ≠ it) → h'.get? s.heap.objs.size = some { cls := .type "tuple", data := .seq #[key, u] } → (∀ b o, b ≠ it → s.heap.get? b = some o → h'.get? b = some o) →
        ∃ u', some (Value.ref s.heap.objs.size) = some u' ∧ wpAny (model X.prog X.w) X.A (letOwnedTupleGo (.Name x p) (.ref it) u') (fun _ s2 => ∃ y H', Inv X pins σ H' s2 ∧ L2.RelV y u' ∧ (Iti d o kvs).yld i H y H' ∧ ((∃ ok ov, IsItemIter s2.heap it d (i + 1) kvs.length ep' ok ov) ∨ ∃ ok ov a f, KdxIt s2.heap it d (i + 1) kvs.length ep' ok ov a f ∧ a ≠ it) ∧ ∀ b ∈ [it], H' b = none) E { s with heap := h' } := fun key h' hkey st' hT hk => by
      refine ⟨_, rfl, wpAny_pure ?_⟩
      have new : ObjOk X.prog X.w (upd H s.heap.objs.size (.tup [kV k, v])) h' s.heap.objs.size (.tup [kV k, v]) :=
        ⟨by show 2 ≤ sizeLine; decide, [key, u], .cons (relV_key (show keyIs k key = true from hkey)) (.cons ru .nil), ⟨_, hT, rfl, _, rfl⟩⟩
      have I1 : Inv X pins σ (upd H s.heap.objs.size (.tup [kV k, v])) { s with heap := h' } :=
        I.turnedNew (t' := s.toks) (ch := [it]) (fun b ob hb e => hk b ob (by simpa using hb) e) hf (Nat.le_refl _) new
      refine ⟨.ref s.heap.objs.size, _, I1, rfl, ⟨_, k, v, hkv, rfl, I.hok.fresh (Nat.le_refl _), rfl⟩, .inr st', fun b hb => ?_⟩
      have e : b = it := by simpa using hb
      rw [e, upd_ne (Nat.ne_of_lt hlt)]
      exact (hf it (by simp)).1
    rcases st with ⟨ok, ov, he⟩ | ⟨ok, ov, a, f, he, hai⟩
    · rw [hl] at he
      refine wpAny_pyNext_items_item he hm hu fun key h' hkey ho hT hz hk => ?_
      have ho' : KdxIt h' it d (i + 1) kvs.length ep' key u s.heap.objs.size false := by
        rw [hl]
        exact ho
      exact fin key h' hkey ⟨key, u, _, false, ho', Nat.ne_of_gt hlt⟩ hT hk
    · rw [hl] at he
      refine next_items he hai hm hu fun key h' hkey st' hT hz hk => ?_
      rw [← hl] at st'
      exact fin key h' hkey st' hT hk
  done := by
    intro X hP hw hK hc i pins s σ H E I hf st hg
    subst hP hw hK
    obtain ⟨hd, hi⟩ := hg
    obtain ⟨f0, f1, f2, f3, f4, f5⟩ := hf it (by simp)
    obtain ⟨hs, hgd, hx, es', ep', vs, hdt, hsz, kv, hm⟩ := I.frzK hd
    obtain ⟨rfl, rfl⟩ := dict_ep hod hdt
    have hl : kvs.length = vs.length := Paired.length kv
    have fin : ∀ h', Heap.ExtBut it s.heap h' → (none : Option Value) = none ∧ Inv X pins σ H { s with heap := h' } := fun h' eb => ⟨rfl, I.turned (t' := s.toks) (fun b ob hb e => eb b ob hb e) f0 f1 f3 f4 f5⟩
    rcases st with ⟨ok, ov, he⟩ | ⟨ok, ov, a, f, he, hai⟩
    · rw [hl] at he
      exact wpAny_pyNext_items_end (I.ok.hd hc) he hm (List.getElem?_eq_none (by omega)) fin
    · rw [hl] at he
      exact kdx_end_out (I.ok.hd hc) he hm (List.getElem?_eq_none (by omega)) fin
  self := fun A i s Q E st h => by
    rcases st with ⟨_, _, e⟩ | ⟨_, _, _, _, e, _⟩
    · exact PySem.W.kcp_self e h
    · have hT : s.TypeIs (.ref it) "dict_itemiterator" := ⟨_, e, rfl⟩
      exact wpAny_pyIter_slot hT F.slot_dict_itemiterator_iter (wpAny_call_entry F.slot_dict_itemiterator_iter hT kcp_entry (wpAny_pure ⟨_, rfl, "dict_itemiterator", _, hT, F.slot_dict_itemiterator_next.lookup, h⟩) (F.args_dict_itemiterator_iter_1 _))
end
section
variable {X : Cx} {e : Expr} {td : TE} {apos cpos p : Pos} {x : Str}
/-- for x in d.items() -/
theorem pi_itemsN (he : PE X e td) (hbase : attributeBase e "items" X.env (eval e X.env) = eval e X.env := by rfl) (hline : (apos.endLine == cpos.line) = true := by rfl) :
    PI X (.Name x p) (.Call (.Attribute e "items" apos) [] [] cpos) (iItems td) := by
  refine ⟨fun pins s σ H R I h => ?_⟩
  refine wpAny_Call_method (T := "dict") (id := "dict.items") hbase rfl hline F.plainAttrs_dict F.slot_dict_items F.type_dict_items (thn (he.run pins s σ H _ I h) fun u s1 ⟨y, H1, I1, rx, d, o, kvs, ex, hd, q⟩ => ?_)
  subst ex
  obtain rfl : u = Value.ref d := rx
  obtain ⟨hs, hgd, hx, es, ep, vs, hdt, hsz, kv, hm⟩ := I1.frzK hd
  have hl : kvs.length = vs.length := Paired.length kv
  refine ⟨hm.dictOf.typeIs, hm.dictOf.mapOf.noDict, ?_⟩
  have I2 : Inv X pins σ H1 { s1 with heap := s1.heap.push { cls := .type "dict_items", data := .fields #[.ref d] } } := I1.kept (t' := s1.toks) fun b ob q => Heap.get?_push_of_some _ q
  have fin : wpAny (model X.prog X.w) X.A (pyIter (.ref s1.heap.objs.size)) (PIE X pins σ (.Name x p) R) X.xe { s1 with heap := s1.heap.push { cls := .type "dict_items", data := .fields #[.ref d] } } := by
    refine wpAny_pyIter_items (d := d) (knd := mixKind X.prog X.w) ⟨_, Heap.get?_push_size _ rfl, rfl, rfl⟩ (hm.push _) (pi_one (tk := s1.toks) I2 _ (turn_itemsN _ hdt) (.inl ⟨.none, .none, ?_⟩) q)
    rw [hl]
    exact Heap.get?_push_size _ rfl
  show wpAny _ _ (callWith cpos (.builtin "dict.items") [.ref d] [] []) _ X.xe s1
  exact method_meetsIn F.slot_dict_items F.entry_dict_items rfl (PySem.evalArgs_none ⟨rfl, hm.dictOf.typeIs, F.args_dict_items_1 _, _, meets_dict_items (mixKind X.prog X.w) d hs, ⟨vs, hm.dictOf⟩, fin⟩)
end
/-- != of two dicts: equal ones, or of other lengths -/
def rNeD2 : R2 := fun x y H Q => rNeDA x y H Q ∨ ∃ a b ks ls, x = .ref a ∧ y = .ref b ∧ H a = some (.dK ks) ∧ H b = some (.dK ls) ∧ ks.length ≠ ls.length ∧ Q (.bl true) H
theorem op_neD2 {X : Cx} (hu : X.A.units < cLine) : OpR X (compareOp .NotEq) rNeD2 := by
  intro pins s σ H x y v u Q I rx ry h
  rcases h with h | ⟨a, b, ks, ls, rfl, rfl, ea, eb, hlen, q⟩
  · exact op_ne_dictA hu pins s σ H x y v u Q I rx ry h
  · obtain rfl : v = Value.ref a := rx
    obtain rfl : u = Value.ref b := ry
    obtain ⟨_, ya, va, ra, da⟩ := (show ObjOk X.prog X.w H s.heap a (.dK ks) from I.hok a _ ea)
    obtain ⟨_, yb, vb, rb, db⟩ := (show ObjOk X.prog X.w H s.heap b (.dK ls) from I.hok b _ eb)
    have hl : ¬ va.length = vb.length := by rw [← ra.length, ← rb.length]; exact hlen
    exact PySem.W.keq_ne (knd := mixKind X.prog X.w) (r := true) ya yb da db hu (fun e => absurd e hl) (fin_bl I q (by simp [hl]))
/-- l != [] -/
def rNeNil : R2 := fun x y H Q => ∃ a b xs, x = .ref a ∧ y = .ref b ∧ H a = some (.lst xs) ∧ H b = some (.lst []) ∧ Q (.bl (!xs.isEmpty)) H
theorem op_neNil {X : Cx} (hu : X.A.units + 64 < cLine) : OpR X (compareOp .NotEq) rNeNil := by
  intro pins s σ H x y v u Q I rx ry h
  obtain ⟨a, b, xs, rfl, rfl, ha, hb, q⟩ := h
  cases (show v = Value.ref a from rx)
  cases (show u = Value.ref b from ry)
  obtain ⟨us, r1, p1, _⟩ := I.list (SqL.of (K := X.K) ha)
  obtain ⟨ws, r2, p2, _⟩ := I.list (SqL.of (K := X.K) hb)
  cases r2
  cases xs with
  | nil =>
    cases r1
    exact SeqAt.RcNeAt.lists (A := X.A) (e := fun _ => true) p1.isList p2.isList rfl (by omega) (fun j h1 _ => by simp at h1) X.prog X.w _ _ ⟨.bl false, H, I, rfl, q⟩
  | cons x xs =>
    cases r1 with
    | cons r rr => exact SeqAt.RcNeAt.lists_lengths (A := X.A) p1.isList p2.isList (by simp) (by omega) X.prog X.w _ _ ⟨.bl true, H, I, rfl, q⟩
/-- a comprehension over the items of a locked dict: the pairs that c takes -/
theorem lc_items {td : TE} {te : TE} {tt : TT} {σ : L2.St} {i : Nat} {H : Hp} {R : Addr} {kvs : List (Key × V)} {c : Key × V → Bool} {Q : VK} (hR : H R = some (.dK kvs)) (few : kvs.length ≤ 10000)
    (hd : ∀ G Q', Ex R H G → Q' (.ref R) G → td σ G Q')
    (ht : ∀ k v T G Q', (k, v) ∈ kvs → G T = some (.tup [kV k, v]) → (∀ G', Same G G' → Q' (c (k, v)) G') → tt ((wipe σ [i]).set i (some (.ref T))) G Q')
    (he : ∀ T G Q', Q' (.ref T) G → te ((wipe σ [i]).set i (some (.ref T))) G Q')
    (hw : ∀ x, wipe ((wipe σ [i]).set i (some x)) [i] = wipe σ [i])
    (q : ∀ H' D ts, Same H H' → H D = none → H' D = some (.lst (ts.map V.ref)) → Paired (fun (t : Addr) (kv : Key × V) => H' t = some (.tup [kV kv.1, kv.2])) ts (kvs.filter c) → Q (.ref D) H') : tLockE (tLc (iItems td) (gName i) tt te [i]) σ H Q := by
  refine ⟨R, .dK kvs, hR, trivial, fun od => ?_⟩
  have exL : Ex R H (upd H R (.frz od (.dK kvs))) := Ex.refl.upd
  refine hd _ _ exL ⟨R, od, kvs, rfl, upd_same, fun D hD => ?_⟩
  have hDR : D ≠ R := fun z => by
    rw [z, upd_same] at hD
    cases hD
  have hD0 : H D = none := by
    rw [upd_ne hDR] at hD
    exact hD
  refine lc_it walk_items (fun j H2 => ∃ ts : List Addr, H2 D = some (.lst (ts.map V.ref)) ∧ ts.length ≤ j ∧ Paired (fun (t : Addr) (kv : Key × V) => H2 t = some (.tup [kV kv.1, kv.2])) ts ((kvs.take j).filter c) ∧ H2 R = some (.frz od (.dK kvs)) ∧ Ex R H H2) ?_ (fun j H2 _ h => let ⟨_, _, _, _, h4, _⟩ := h; h4) ?_ ?_
  · refine ⟨[], upd_same, Nat.zero_le _, .nil, (by rw [upd_ne hDR.symm, upd_same]), fun b o hb h => ?_⟩
    rw [upd_ne (ne_of_none h hD0), upd_ne hb]
    exact h
  · rintro j x H2 H3 hj ⟨ts, hb, hlen, hp, hr, ex⟩ ⟨T, y1, y2, rfl, nT, rfl, e1, e2⟩
    obtain ⟨⟨k, v⟩, hkv⟩ : ∃ p, kvs[j]? = some p := ⟨kvs[j], List.getElem?_eq_getElem hj⟩
    dsimp only at e1 e2
    rw [hkv] at e1 e2
    cases e1
    cases e2
    generalize hg : upd H2 T (.tup [kV k, v]) = G
    have s2 := sameOf nT hg
    have eT := atOf hg
    clear hg
    have etk : (kvs.take (j + 1)).filter c = (kvs.take j).filter c ++ (if c (k, v) then [(k, v)] else []) := by
      rw [List.take_add_one, hkv, List.filter_append]
      congr 1
      show List.filter c [(k, v)] = _
      rw [List.filter_cons]
      split <;> rfl
    have hp' : Paired (fun (t : Addr) (kv : Key × V) => G t = some (.tup [kV kv.1, kv.2])) ts ((kvs.take j).filter c) := by
      refine pairedOf hp.length fun n a b ha hb' => ?_
      obtain ⟨y, e1, e2⟩ := LiI.paired_get hp ha
      rw [hb'] at e1
      cases e1
      exact s2 _ _ e2
    refine ⟨hw _, ht k v T G _ (List.mem_of_getElem? hkv) eT fun G' sG => ?_⟩
    have ex' : Ex R H G' := fun b o hb' h => sG _ _ (s2 _ _ (ex b o hb' h))
    have hp2 : Paired (fun (t : Addr) (kv : Key × V) => G' t = some (.tup [kV kv.1, kv.2])) ts ((kvs.take j).filter c) := by
      refine pairedOf hp'.length fun n a b ha hb' => ?_
      obtain ⟨y, e1, e2⟩ := LiI.paired_get hp' ha
      rw [hb'] at e1
      cases e1
      exact sG _ _ e2
    cases hc : c (k, v) with
    | true =>
      rw [if_pos rfl]
      refine he T G' _ ⟨_, sG _ _ (s2 _ _ hb), by rw [List.length_map, sizeLine_eq]; omega, ts ++ [T], ?_, ?_, ?_, ?_, ?_⟩
      · rw [upd_same, List.map_append]
        rfl
      · rw [List.length_append]
        simp
        omega
      · rw [etk, hc, if_pos rfl]
        have nTD : ∀ t kv, G' t = some (.tup [kV kv, v]) → t ≠ D := fun t kv h => ne_of h (sG _ _ (s2 _ _ hb)) (fun z => by cases z)
        refine pairedOf (by simp [hp2.length]) fun n a b ha hb' => ?_
        rw [List.getElem?_append] at ha hb'
        by_cases hn : n < ts.length
        · rw [if_pos hn] at ha
          rw [if_pos (by rw [← hp2.length]; exact hn)] at hb'
          obtain ⟨y, e1, e2⟩ := LiI.paired_get hp2 ha
          rw [hb'] at e1
          cases e1
          rw [upd_ne (ne_of e2 (sG _ _ (s2 _ _ hb)) (fun z => by cases z))]
          exact e2
        · rw [if_neg hn] at ha
          rw [if_neg (by rw [← hp2.length]; exact hn), ← hp2.length] at hb'
          cases hm : n - ts.length with
          | zero =>
            rw [hm] at ha hb'
            cases ha
            cases hb'
            rw [upd_ne (ne_of (sG _ _ eT) (sG _ _ (s2 _ _ hb)) (fun z => by cases z))]
            exact sG _ _ eT
          | succ m =>
            rw [hm] at ha
            cases ha
      · rw [upd_ne hDR.symm]
        exact sG _ _ (s2 _ _ hr)
      · intro b o hb' h
        rw [upd_ne (ne_of_none h hD0)]
        exact ex' b o hb' h
    | false =>
      rw [if_neg (by decide)]
      refine ⟨ts, sG _ _ (s2 _ _ hb), by omega, ?_, sG _ _ (s2 _ _ hr), ex'⟩
      rw [etk, hc, if_neg (by decide), List.append_nil]
      exact hp2
  · rintro H2 ⟨ts, hb, hlen, hp, hr, ex⟩
    rw [List.take_length] at hp
    have tR : ∀ t kv, H2 t = some (.tup kv) → t ≠ R := fun t kv h => ne_of h hr (fun z => by cases z)
    refine ⟨hr, q _ D ts ?_ hD0 ?_ ?_⟩
    · intro b o h
      by_cases e : b = R
      · subst e
        rw [upd_same, ← h, hR]
      · rw [upd_ne e]
        exact ex b o e h
    · rw [upd_ne hDR]
      exact hb
    · refine pairedOf hp.length fun n a b ha hb' => ?_
      obtain ⟨y, e1, e2⟩ := LiI.paired_get hp ha
      rw [hb'] at e1
      cases e1
      rw [upd_ne (tR _ _ e2)]
      exact e2
end Ah

namespace k33
open PySem PySem.Spec PyProof.Rows L2 He Ah
local macro_rules | `(tactic| walk_at "st") => `(tactic| repeat (first | refine ⟨_, rfl, ?_⟩ | refine ⟨_, _, rfl, rfl, ?_⟩))
local macro_rules | `(tactic| walk_at "lk") => `(tactic| repeat (first | exact look0 | rw [lookS (by decide +kernel)]))
local macro_rules | `(tactic| walk_at "pf") => `(tactic| repeat (first | rw [putF0] | rw [putF_hit] | rw [putFS (by decide +kernel)]))
local macro_rules | `(tactic| walk_at "nm") => `(tactic| simp only [tRet, tRetN, tSeq, tNext, tAsg, gName, tDrop, tIfS, tTest, tB, tNot, tAnd, tOr, tAndV, tOrV, tNotV, tIf, tC, tCons, tNil, tCB, tCall, tOp, tUn, tChain, rI0, rI, tVar, tSl, tPart, tNoPart, tLst, tTup, gSub, tPar, cxOf, L2.Cx.nox, L2.Cx.wish, L2.start, List.map_cons, List.map_nil, List.length_cons, List.length_nil, List.nil_append, List.cons_append, List.append_nil, Nat.zero_add, Nat.reduceAdd, Nat.reduceSub, Nat.sub_self, Nat.sub_zero, List.replicate_succ, List.replicate_zero, List.getElem?_cons_zero, List.getElem?_cons_succ, List.set_cons_zero, List.set_cons_succ, Option.some.injEq, exists_eq_left, exists_eq_left', exists_eq_right, exists_and_left, decide_eq_true_eq, decide_eq_false_iff_not, Bool.not_eq_true', V.int.injEq, V.bl.injEq, V.str.injEq, V.ref.injEq, List.cons.injEq, and_true, true_and, if_true, if_false, Bool.false_eq_true, Bool.not_true, Bool.not_false, ite_true, ite_false])
def top (i : Nat) : Stmt := PySem.Challenge.pw_arccursors_k33_invalid_journals.main.body.getD i (.Pass ⟨0, 0, 0, 0⟩)
abbrev s__wall : Stmt := top 0
def g__wall : DefG := { ad := glA "_wall", name := "_wall", qual := "_wall", params := defArgs s__wall, body := defBody s__wall, scope := defScope s__wall }
abbrev s_is_integer : Stmt := top 12
def g_is_integer : DefG := { ad := glA "is_integer", name := "is_integer", qual := "is_integer", params := defArgs s_is_integer, body := defBody s_is_integer, scope := defScope s_is_integer }
abbrev s_in_range : Stmt := top 13
def g_in_range : DefG := { ad := glA "in_range", name := "in_range", qual := "in_range", params := defArgs s_in_range, body := defBody s_in_range, scope := defScope s_in_range }
abbrev s_check_number : Stmt := top 14
def g_check_number : DefG := { ad := glA "check_number", name := "check_number", qual := "check_number", params := defArgs s_check_number, body := defBody s_check_number, scope := defScope s_check_number }
abbrev s_check_least : Stmt := top 15
def g_check_least : DefG := { ad := glA "check_least", name := "check_least", qual := "check_least", params := defArgs s_check_least, body := defBody s_check_least, scope := defScope s_check_least }
abbrev s_is_key : Stmt := top 16
def g_is_key : DefG := { ad := glA "is_key", name := "is_key", qual := "is_key", params := defArgs s_is_key, body := defBody s_is_key, scope := defScope s_is_key }
abbrev s_check_key : Stmt := top 17
def g_check_key : DefG := { ad := glA "check_key", name := "check_key", qual := "check_key", params := defArgs s_check_key, body := defBody s_check_key, scope := defScope s_check_key }
abbrev s_is_point : Stmt := top 18
def g_is_point : DefG := { ad := glA "is_point", name := "is_point", qual := "is_point", params := defArgs s_is_point, body := defBody s_is_point, scope := defScope s_is_point }
abbrev s_check_point : Stmt := top 19
def g_check_point : DefG := { ad := glA "check_point", name := "check_point", qual := "check_point", params := defArgs s_check_point, body := defBody s_check_point, scope := defScope s_check_point }
abbrev s_check_value : Stmt := top 23
def g_check_value : DefG := { ad := glA "check_value", name := "check_value", qual := "check_value", params := defArgs s_check_value, body := defBody s_check_value, scope := defScope s_check_value }
abbrev s_log_with : Stmt := top 25
def g_log_with : DefG := { ad := glA "log_with", name := "log_with", qual := "log_with", params := defArgs s_log_with, body := defBody s_log_with, scope := defScope s_log_with }
abbrev s_is_amount : Stmt := top 27
def g_is_amount : DefG := { ad := glA "is_amount", name := "is_amount", qual := "is_amount", params := defArgs s_is_amount, body := defBody s_is_amount, scope := defScope s_is_amount }
abbrev s_are_rows : Stmt := top 28
def g_are_rows : DefG := { ad := glA "are_rows", name := "are_rows", qual := "are_rows", params := defArgs s_are_rows, body := defBody s_are_rows, scope := defScope s_are_rows }
abbrev s_is_change : Stmt := top 29
def g_is_change : DefG := { ad := glA "is_change", name := "is_change", qual := "is_change", params := defArgs s_is_change, body := defBody s_is_change, scope := defScope s_is_change }
abbrev s_are_changes : Stmt := top 30
def g_are_changes : DefG := { ad := glA "are_changes", name := "are_changes", qual := "are_changes", params := defArgs s_are_changes, body := defBody s_are_changes, scope := defScope s_are_changes }
abbrev s_is_own : Stmt := top 31
def g_is_own : DefG := { ad := glA "is_own", name := "is_own", qual := "is_own", params := defArgs s_is_own, body := defBody s_is_own, scope := defScope s_is_own }
abbrev s_is_entry : Stmt := top 32
def g_is_entry : DefG := { ad := glA "is_entry", name := "is_entry", qual := "is_entry", params := defArgs s_is_entry, body := defBody s_is_entry, scope := defScope s_is_entry }
abbrev s_recovered : Stmt := top 34
def g_recovered : DefG := { ad := glA "recovered", name := "recovered", qual := "recovered", params := defArgs s_recovered, body := defBody s_recovered, scope := defScope s_recovered }
abbrev s_is_like : Stmt := top 35
def g_is_like : DefG := { ad := glA "is_like", name := "is_like", qual := "is_like", params := defArgs s_is_like, body := defBody s_is_like, scope := defScope s_is_like }
abbrev s_is_recovered : Stmt := top 36
def g_is_recovered : DefG := { ad := glA "is_recovered", name := "is_recovered", qual := "is_recovered", params := defArgs s_is_recovered, body := defBody s_is_recovered, scope := defScope s_is_recovered }
abbrev s__law_hand : Stmt := top 38
def g__law_hand : DefG := { ad := glA "_law_hand", name := "_law_hand", qual := "_law_hand", params := defArgs s__law_hand, body := defBody s__law_hand, scope := defScope s__law_hand }
abbrev s__law_draw : Stmt := top 39
def g__law_draw : DefG := { ad := glA "_law_draw", name := "_law_draw", qual := "_law_draw", params := defArgs s__law_draw, body := defBody s__law_draw, scope := defScope s__law_draw }
abbrev s__law_entries : Stmt := top 40
def g__law_entries : DefG := { ad := glA "_law_entries", name := "_law_entries", qual := "_law_entries", params := defArgs s__law_entries, body := defBody s__law_entries, scope := defScope s__law_entries }
abbrev s__law_forms : Stmt := top 41
def g__law_forms : DefG := { ad := glA "_law_forms", name := "_law_forms", qual := "_law_forms", params := defArgs s__law_forms, body := defBody s__law_forms, scope := defScope s__law_forms }
abbrev s__law_follows : Stmt := top 42
def g__law_follows : DefG := { ad := glA "_law_follows", name := "_law_follows", qual := "_law_follows", params := defArgs s__law_follows, body := defBody s__law_follows, scope := defScope s__law_follows }
abbrev s__law_told : Stmt := top 43
def g__law_told : DefG := { ad := glA "_law_told", name := "_law_told", qual := "_law_told", params := defArgs s__law_told, body := defBody s__law_told, scope := defScope s__law_told }
abbrev s_law : Stmt := top 44
def g_law : DefG := { ad := glA "law", name := "law", qual := "law", params := defArgs s_law, body := defBody s_law, scope := defScope s_law }
abbrev s_InvalidNumber_init : Stmt := inClass (top 2) 0
def g_InvalidNumber_init : DefG := { ad := mtA "InvalidNumber" "__init__", name := "__init__", qual := "InvalidNumber.__init__", params := defArgs s_InvalidNumber_init, body := defBody s_InvalidNumber_init, scope := defScope s_InvalidNumber_init }
abbrev s_InvalidKey_init : Stmt := inClass (top 3) 0
def g_InvalidKey_init : DefG := { ad := mtA "InvalidKey" "__init__", name := "__init__", qual := "InvalidKey.__init__", params := defArgs s_InvalidKey_init, body := defBody s_InvalidKey_init, scope := defScope s_InvalidKey_init }
abbrev s_InvalidPoint_init : Stmt := inClass (top 4) 0
def g_InvalidPoint_init : DefG := { ad := mtA "InvalidPoint" "__init__", name := "__init__", qual := "InvalidPoint.__init__", params := defArgs s_InvalidPoint_init, body := defBody s_InvalidPoint_init, scope := defScope s_InvalidPoint_init }
abbrev s_InvalidArc_init : Stmt := inClass (top 5) 0
def g_InvalidArc_init : DefG := { ad := mtA "InvalidArc" "__init__", name := "__init__", qual := "InvalidArc.__init__", params := defArgs s_InvalidArc_init, body := defBody s_InvalidArc_init, scope := defScope s_InvalidArc_init }
abbrev s_InvalidEntries_init : Stmt := inClass (top 6) 0
def g_InvalidEntries_init : DefG := { ad := mtA "InvalidEntries" "__init__", name := "__init__", qual := "InvalidEntries.__init__", params := defArgs s_InvalidEntries_init, body := defBody s_InvalidEntries_init, scope := defScope s_InvalidEntries_init }
abbrev s_Arc_init : Stmt := inClass (top 20) 0
def g_Arc_init : DefG := { ad := mtA "Arc" "__init__", name := "__init__", qual := "Arc.__init__", params := defArgs s_Arc_init, body := defBody s_Arc_init, scope := defScope s_Arc_init }
abbrev s_Arc_start : Stmt := inClass (top 20) 1
def g_Arc_start : DefG := { ad := gtA "Arc" "start", name := "start", qual := "Arc.start", params := defArgs s_Arc_start, body := defBody s_Arc_start, scope := defScope s_Arc_start }
abbrev s_Arc_end : Stmt := inClass (top 20) 2
def g_Arc_end : DefG := { ad := gtA "Arc" "end", name := "end", qual := "Arc.end", params := defArgs s_Arc_end, body := defBody s_Arc_end, scope := defScope s_Arc_end }
abbrev s_Arc_contains : Stmt := inClass (top 20) 3
def g_Arc_contains : DefG := { ad := mtA "Arc" "__contains__", name := "__contains__", qual := "Arc.__contains__", params := defArgs s_Arc_contains, body := defBody s_Arc_contains, scope := defScope s_Arc_contains }
abbrev s_Arc_and : Stmt := inClass (top 20) 4
def g_Arc_and : DefG := { ad := mtA "Arc" "__and__", name := "__and__", qual := "Arc.__and__", params := defArgs s_Arc_and, body := defBody s_Arc_and, scope := defScope s_Arc_and }
abbrev s_Arc_split : Stmt := inClass (top 20) 5
def g_Arc_split : DefG := { ad := mtA "Arc" "split", name := "split", qual := "Arc.split", params := defArgs s_Arc_split, body := defBody s_Arc_split, scope := defScope s_Arc_split }
abbrev s_Arc_eq : Stmt := inClass (top 20) 6
def g_Arc_eq : DefG := { ad := mtA "Arc" "__eq__", name := "__eq__", qual := "Arc.__eq__", params := defArgs s_Arc_eq, body := defBody s_Arc_eq, scope := defScope s_Arc_eq }
abbrev s_Arc_repr : Stmt := inClass (top 20) 7
def g_Arc_repr : DefG := { ad := mtA "Arc" "__repr__", name := "__repr__", qual := "Arc.__repr__", params := defArgs s_Arc_repr, body := defBody s_Arc_repr, scope := defScope s_Arc_repr }
abbrev s_ChangeLog_init : Stmt := inClass (top 24) 0
def g_ChangeLog_init : DefG := { ad := mtA "ChangeLog" "__init__", name := "__init__", qual := "ChangeLog.__init__", params := defArgs s_ChangeLog_init, body := defBody s_ChangeLog_init, scope := defScope s_ChangeLog_init }
abbrev s_ChangeLog_bound : Stmt := inClass (top 24) 1
def g_ChangeLog_bound : DefG := { ad := gtA "ChangeLog" "bound", name := "bound", qual := "ChangeLog.bound", params := defArgs s_ChangeLog_bound, body := defBody s_ChangeLog_bound, scope := defScope s_ChangeLog_bound }
abbrev s_ChangeLog_floor : Stmt := inClass (top 24) 2
def g_ChangeLog_floor : DefG := { ad := gtA "ChangeLog" "floor", name := "floor", qual := "ChangeLog.floor", params := defArgs s_ChangeLog_floor, body := defBody s_ChangeLog_floor, scope := defScope s_ChangeLog_floor }
abbrev s_ChangeLog_last : Stmt := inClass (top 24) 3
def g_ChangeLog_last : DefG := { ad := mtA "ChangeLog" "last", name := "last", qual := "ChangeLog.last", params := defArgs s_ChangeLog_last, body := defBody s_ChangeLog_last, scope := defScope s_ChangeLog_last }
abbrev s_ChangeLog_add : Stmt := inClass (top 24) 4
def g_ChangeLog_add : DefG := { ad := mtA "ChangeLog" "add", name := "add", qual := "ChangeLog.add", params := defArgs s_ChangeLog_add, body := defBody s_ChangeLog_add, scope := defScope s_ChangeLog_add }
abbrev s_ChangeLog_trim : Stmt := inClass (top 24) 5
def g_ChangeLog_trim : DefG := { ad := mtA "ChangeLog" "trim", name := "trim", qual := "ChangeLog.trim", params := defArgs s_ChangeLog_trim, body := defBody s_ChangeLog_trim, scope := defScope s_ChangeLog_trim }
abbrev s_ChangeLog_changes : Stmt := inClass (top 24) 6
def g_ChangeLog_changes : DefG := { ad := mtA "ChangeLog" "changes", name := "changes", qual := "ChangeLog.changes", params := defArgs s_ChangeLog_changes, body := defBody s_ChangeLog_changes, scope := defScope s_ChangeLog_changes }
abbrev s_ChangeLog_since : Stmt := inClass (top 24) 7
def g_ChangeLog_since : DefG := { ad := mtA "ChangeLog" "since", name := "since", qual := "ChangeLog.since", params := defArgs s_ChangeLog_since, body := defBody s_ChangeLog_since, scope := defScope s_ChangeLog_since }
abbrev s_ChangeLog_len : Stmt := inClass (top 24) 8
def g_ChangeLog_len : DefG := { ad := mtA "ChangeLog" "__len__", name := "__len__", qual := "ChangeLog.__len__", params := defArgs s_ChangeLog_len, body := defBody s_ChangeLog_len, scope := defScope s_ChangeLog_len }
abbrev s_ChangeLog_eq : Stmt := inClass (top 24) 9
def g_ChangeLog_eq : DefG := { ad := mtA "ChangeLog" "__eq__", name := "__eq__", qual := "ChangeLog.__eq__", params := defArgs s_ChangeLog_eq, body := defBody s_ChangeLog_eq, scope := defScope s_ChangeLog_eq }
abbrev s_Recovery_init : Stmt := inClass (top 33) 0
def g_Recovery_init : DefG := { ad := mtA "Recovery" "__init__", name := "__init__", qual := "Recovery.__init__", params := defArgs s_Recovery_init, body := defBody s_Recovery_init, scope := defScope s_Recovery_init }
abbrev s_Recovery_take : Stmt := inClass (top 33) 1
def g_Recovery_take : DefG := { ad := mtA "Recovery" "take", name := "take", qual := "Recovery.take", params := defArgs s_Recovery_take, body := defBody s_Recovery_take, scope := defScope s_Recovery_take }
abbrev s_Recovery_take_own : Stmt := inClass (top 33) 2
def g_Recovery_take_own : DefG := { ad := mtA "Recovery" "take_own", name := "take_own", qual := "Recovery.take_own", params := defArgs s_Recovery_take_own, body := defBody s_Recovery_take_own, scope := defScope s_Recovery_take_own }
abbrev s_Recovery_take_change : Stmt := inClass (top 33) 3
def g_Recovery_take_change : DefG := { ad := mtA "Recovery" "take_change", name := "take_change", qual := "Recovery.take_change", params := defArgs s_Recovery_take_change, body := defBody s_Recovery_take_change, scope := defScope s_Recovery_take_change }
abbrev s_Recovery_shards : Stmt := inClass (top 33) 4
def g_Recovery_shards : DefG := { ad := mtA "Recovery" "shards", name := "shards", qual := "Recovery.shards", params := defArgs s_Recovery_shards, body := defBody s_Recovery_shards, scope := defScope s_Recovery_shards }
/-- what the top has written -/
structure Txt (K : Frag) (mg : Str → Option Value) : Prop where
  d__wall : Stands K g__wall
  d_is_integer : Stands K g_is_integer
  d_in_range : Stands K g_in_range
  d_check_number : Stands K g_check_number
  d_check_least : Stands K g_check_least
  d_is_key : Stands K g_is_key
  d_check_key : Stands K g_check_key
  d_is_point : Stands K g_is_point
  d_check_point : Stands K g_check_point
  d_check_value : Stands K g_check_value
  d_log_with : Stands K g_log_with
  d_is_amount : Stands K g_is_amount
  d_are_rows : Stands K g_are_rows
  d_is_change : Stands K g_is_change
  d_are_changes : Stands K g_are_changes
  d_is_own : Stands K g_is_own
  d_is_entry : Stands K g_is_entry
  d_recovered : Stands K g_recovered
  d_is_like : Stands K g_is_like
  d_is_recovered : Stands K g_is_recovered
  d__law_hand : Stands K g__law_hand
  d__law_draw : Stands K g__law_draw
  d__law_entries : Stands K g__law_entries
  d__law_forms : Stands K g__law_forms
  d__law_follows : Stands K g__law_follows
  d__law_told : Stands K g__law_told
  d_law : Stands K g_law
  d_InvalidNumber_init : Stands K g_InvalidNumber_init
  d_InvalidKey_init : Stands K g_InvalidKey_init
  d_InvalidPoint_init : Stands K g_InvalidPoint_init
  d_InvalidArc_init : Stands K g_InvalidArc_init
  d_InvalidEntries_init : Stands K g_InvalidEntries_init
  d_Arc_init : Stands K g_Arc_init
  d_Arc_start : Stands K g_Arc_start
  d_Arc_end : Stands K g_Arc_end
  d_Arc_contains : Stands K g_Arc_contains
  d_Arc_and : Stands K g_Arc_and
  d_Arc_split : Stands K g_Arc_split
  d_Arc_eq : Stands K g_Arc_eq
  d_Arc_repr : Stands K g_Arc_repr
  d_ChangeLog_init : Stands K g_ChangeLog_init
  d_ChangeLog_bound : Stands K g_ChangeLog_bound
  d_ChangeLog_floor : Stands K g_ChangeLog_floor
  d_ChangeLog_last : Stands K g_ChangeLog_last
  d_ChangeLog_add : Stands K g_ChangeLog_add
  d_ChangeLog_trim : Stands K g_ChangeLog_trim
  d_ChangeLog_changes : Stands K g_ChangeLog_changes
  d_ChangeLog_since : Stands K g_ChangeLog_since
  d_ChangeLog_len : Stands K g_ChangeLog_len
  d_ChangeLog_eq : Stands K g_ChangeLog_eq
  d_Recovery_init : Stands K g_Recovery_init
  d_Recovery_take : Stands K g_Recovery_take
  d_Recovery_take_own : Stands K g_Recovery_take_own
  d_Recovery_take_change : Stands K g_Recovery_take_change
  d_Recovery_shards : Stands K g_Recovery_shards
  m__wall : mg "_wall" = some (.ref (ga K "_wall"))
  m_is_integer : mg "is_integer" = some (.ref (ga K "is_integer"))
  m_in_range : mg "in_range" = some (.ref (ga K "in_range"))
  m_check_number : mg "check_number" = some (.ref (ga K "check_number"))
  m_check_least : mg "check_least" = some (.ref (ga K "check_least"))
  m_is_key : mg "is_key" = some (.ref (ga K "is_key"))
  m_check_key : mg "check_key" = some (.ref (ga K "check_key"))
  m_is_point : mg "is_point" = some (.ref (ga K "is_point"))
  m_check_point : mg "check_point" = some (.ref (ga K "check_point"))
  m_check_value : mg "check_value" = some (.ref (ga K "check_value"))
  m_log_with : mg "log_with" = some (.ref (ga K "log_with"))
  m_is_amount : mg "is_amount" = some (.ref (ga K "is_amount"))
  m_are_rows : mg "are_rows" = some (.ref (ga K "are_rows"))
  m_is_change : mg "is_change" = some (.ref (ga K "is_change"))
  m_are_changes : mg "are_changes" = some (.ref (ga K "are_changes"))
  m_is_own : mg "is_own" = some (.ref (ga K "is_own"))
  m_is_entry : mg "is_entry" = some (.ref (ga K "is_entry"))
  m_recovered : mg "recovered" = some (.ref (ga K "recovered"))
  m_is_like : mg "is_like" = some (.ref (ga K "is_like"))
  m_is_recovered : mg "is_recovered" = some (.ref (ga K "is_recovered"))
  m__law_hand : mg "_law_hand" = some (.ref (ga K "_law_hand"))
  m__law_draw : mg "_law_draw" = some (.ref (ga K "_law_draw"))
  m__law_entries : mg "_law_entries" = some (.ref (ga K "_law_entries"))
  m__law_forms : mg "_law_forms" = some (.ref (ga K "_law_forms"))
  m__law_follows : mg "_law_follows" = some (.ref (ga K "_law_follows"))
  m__law_told : mg "_law_told" = some (.ref (ga K "_law_told"))
  m_law : mg "law" = some (.ref (ga K "law"))
  m_InvalidNumber : mg "InvalidNumber" = some (.ref (ga K "InvalidNumber"))
  m_InvalidKey : mg "InvalidKey" = some (.ref (ga K "InvalidKey"))
  m_InvalidPoint : mg "InvalidPoint" = some (.ref (ga K "InvalidPoint"))
  m_InvalidArc : mg "InvalidArc" = some (.ref (ga K "InvalidArc"))
  m_InvalidEntries : mg "InvalidEntries" = some (.ref (ga K "InvalidEntries"))
  m_Arc : mg "Arc" = some (.ref (ga K "Arc"))
  c_Arc : Cls K (ga K "Arc")
  k_Arc : Mk K (ga K "Arc") (ma K (ga K "Arc") "__init__")
  n_Arc_own_start : NoAttr K (ga K "Arc") "own_start"
  n_Arc_own_end : NoAttr K (ga K "Arc") "own_end"
  e_Arc_contains : Meth K (ga K "Arc") "__contains__" (ma K (ga K "Arc") "__contains__")
  e_Arc_and : Meth K (ga K "Arc") "__and__" (ma K (ga K "Arc") "__and__")
  e_Arc_split : Meth K (ga K "Arc") "split" (ma K (ga K "Arc") "split")
  e_Arc_eq : Meth K (ga K "Arc") "__eq__" (ma K (ga K "Arc") "__eq__")
  e_Arc_repr : Meth K (ga K "Arc") "__repr__" (ma K (ga K "Arc") "__repr__")
  m_ChangeLog : mg "ChangeLog" = some (.ref (ga K "ChangeLog"))
  c_ChangeLog : Cls K (ga K "ChangeLog")
  k_ChangeLog : Mk K (ga K "ChangeLog") (ma K (ga K "ChangeLog") "__init__")
  n_ChangeLog_own_bound : NoAttr K (ga K "ChangeLog") "own_bound"
  n_ChangeLog_own_floor : NoAttr K (ga K "ChangeLog") "own_floor"
  n_ChangeLog_own_changes : NoAttr K (ga K "ChangeLog") "own_changes"
  e_ChangeLog_last : Meth K (ga K "ChangeLog") "last" (ma K (ga K "ChangeLog") "last")
  e_ChangeLog_add : Meth K (ga K "ChangeLog") "add" (ma K (ga K "ChangeLog") "add")
  e_ChangeLog_trim : Meth K (ga K "ChangeLog") "trim" (ma K (ga K "ChangeLog") "trim")
  e_ChangeLog_changes : Meth K (ga K "ChangeLog") "changes" (ma K (ga K "ChangeLog") "changes")
  e_ChangeLog_since : Meth K (ga K "ChangeLog") "since" (ma K (ga K "ChangeLog") "since")
  e_ChangeLog_len : Meth K (ga K "ChangeLog") "__len__" (ma K (ga K "ChangeLog") "__len__")
  e_ChangeLog_eq : Meth K (ga K "ChangeLog") "__eq__" (ma K (ga K "ChangeLog") "__eq__")
  m_Recovery : mg "Recovery" = some (.ref (ga K "Recovery"))
  c_Recovery : Cls K (ga K "Recovery")
  k_Recovery : Mk K (ga K "Recovery") (ma K (ga K "Recovery") "__init__")
  n_Recovery_own_bound : NoAttr K (ga K "Recovery") "own_bound"
  n_Recovery_own_moment : NoAttr K (ga K "Recovery") "own_moment"
  n_Recovery_own_shards : NoAttr K (ga K "Recovery") "own_shards"
  e_Recovery_take : Meth K (ga K "Recovery") "take" (ma K (ga K "Recovery") "take")
  e_Recovery_take_own : Meth K (ga K "Recovery") "take_own" (ma K (ga K "Recovery") "take_own")
  e_Recovery_take_change : Meth K (ga K "Recovery") "take_change" (ma K (ga K "Recovery") "take_change")
  e_Recovery_shards : Meth K (ga K "Recovery") "shards" (ma K (ga K "Recovery") "shards")
  v_MAX_NUMBER : ∃ t, mg "MAX_NUMBER" = some (.int 4294967296 t)
  v_MAX_LENGTH : ∃ t, mg "MAX_LENGTH" = some (.int 20 t)
  v_BEHIND : ∃ t, mg "BEHIND" = some (.str "!" t)
  v_CHARACTERS : ∃ t, mg "CHARACTERS" = some (.str "abcdefghijklmnopqrstuvwxyz0123456789" t)
  v_MAX_BOUND : ∃ t, mg "MAX_BOUND" = some (.int 1000 t)
  b_NotImplemented : mg "NotImplemented" = none
  b_ValueError : mg "ValueError" = none
  b_all : mg "all" = none
  b_bool : mg "bool" = none
  b_dict : mg "dict" = none
  b_enumerate : mg "enumerate" = none
  b_int : mg "int" = none
  b_isinstance : mg "isinstance" = none
  b_len : mg "len" = none
  b_list : mg "list" = none
  b_max : mg "max" = none
  b_min : mg "min" = none
  b_property : mg "property" = none
  b_range : mg "range" = none
  b_repr : mg "repr" = none
  b_sorted : mg "sorted" = none
  b_str : mg "str" = none
  b_tuple : mg "tuple" = none
  b_zip : mg "zip" = none
  r_InvalidNumber : ExcT K mg "InvalidNumber"
  xc_InvalidNumber : ExcC K (ga K "InvalidNumber")
  xf_InvalidNumber : XfC K (ga K "InvalidNumber")
  xn_InvalidNumber_value : PySem.W.findIn K (.ref (ga K "InvalidNumber")) "value" = some none
  xk_InvalidNumber : PySem.W.kitOne K (.ref (ga K "InvalidNumber")) (.type "ValueError") = some true
  em_InvalidNumber_InvalidEntries : PySem.W.exmOne K (.ref (ga K "InvalidNumber")) (.ref (ga K "InvalidEntries")) = some false
  em_InvalidNumber_InvalidNumber : PySem.W.exmOne K (.ref (ga K "InvalidNumber")) (.ref (ga K "InvalidNumber")) = some true
  r_InvalidKey : ExcT K mg "InvalidKey"
  xc_InvalidKey : ExcC K (ga K "InvalidKey")
  xf_InvalidKey : XfC K (ga K "InvalidKey")
  xn_InvalidKey_value : PySem.W.findIn K (.ref (ga K "InvalidKey")) "value" = some none
  xk_InvalidKey : PySem.W.kitOne K (.ref (ga K "InvalidKey")) (.type "ValueError") = some true
  em_InvalidKey_InvalidEntries : PySem.W.exmOne K (.ref (ga K "InvalidKey")) (.ref (ga K "InvalidEntries")) = some false
  em_InvalidKey_InvalidNumber : PySem.W.exmOne K (.ref (ga K "InvalidKey")) (.ref (ga K "InvalidNumber")) = some false
  r_InvalidPoint : ExcT K mg "InvalidPoint"
  xc_InvalidPoint : ExcC K (ga K "InvalidPoint")
  xf_InvalidPoint : XfC K (ga K "InvalidPoint")
  xn_InvalidPoint_value : PySem.W.findIn K (.ref (ga K "InvalidPoint")) "value" = some none
  xk_InvalidPoint : PySem.W.kitOne K (.ref (ga K "InvalidPoint")) (.type "ValueError") = some true
  em_InvalidPoint_InvalidEntries : PySem.W.exmOne K (.ref (ga K "InvalidPoint")) (.ref (ga K "InvalidEntries")) = some false
  em_InvalidPoint_InvalidNumber : PySem.W.exmOne K (.ref (ga K "InvalidPoint")) (.ref (ga K "InvalidNumber")) = some false
  r_InvalidArc : ExcT K mg "InvalidArc"
  xc_InvalidArc : ExcC K (ga K "InvalidArc")
  xf_InvalidArc : XfC K (ga K "InvalidArc")
  xn_InvalidArc_first : PySem.W.findIn K (.ref (ga K "InvalidArc")) "first" = some none
  xn_InvalidArc_second : PySem.W.findIn K (.ref (ga K "InvalidArc")) "second" = some none
  xk_InvalidArc : PySem.W.kitOne K (.ref (ga K "InvalidArc")) (.type "ValueError") = some true
  em_InvalidArc_InvalidEntries : PySem.W.exmOne K (.ref (ga K "InvalidArc")) (.ref (ga K "InvalidEntries")) = some false
  em_InvalidArc_InvalidNumber : PySem.W.exmOne K (.ref (ga K "InvalidArc")) (.ref (ga K "InvalidNumber")) = some false
  r_InvalidEntries : ExcT K mg "InvalidEntries"
  xc_InvalidEntries : ExcC K (ga K "InvalidEntries")
  xf_InvalidEntries : XfC K (ga K "InvalidEntries")
  xn_InvalidEntries_position : PySem.W.findIn K (.ref (ga K "InvalidEntries")) "position" = some none
  xk_InvalidEntries : PySem.W.kitOne K (.ref (ga K "InvalidEntries")) (.type "ValueError") = some true
  em_InvalidEntries_InvalidEntries : PySem.W.exmOne K (.ref (ga K "InvalidEntries")) (.ref (ga K "InvalidEntries")) = some true
  em_InvalidEntries_InvalidNumber : PySem.W.exmOne K (.ref (ga K "InvalidEntries")) (.ref (ga K "InvalidNumber")) = some false
  p_Arc_start : PropOf K (ga K "Arc") "start" (ma K (ga K "Arc") "start") (gtA "Arc" "start" K)
  p_Arc_end : PropOf K (ga K "Arc") "end" (ma K (ga K "Arc") "end") (gtA "Arc" "end" K)
  o_Arc : OwnC K (ga K "Arc")
  q_Arc : OwnK K (ga K "Arc")
  f_Arc : ∀ T ∈ all7, PySem.W.notFirst K (ga K "Arc") (.type T) = true
  x_Arc_ne : NoNe K (ga K "Arc")
  a_Arc : PySem.W.selfFirst K (ga K "Arc") = true
  p_ChangeLog_bound : PropOf K (ga K "ChangeLog") "bound" (ma K (ga K "ChangeLog") "bound") (gtA "ChangeLog" "bound" K)
  p_ChangeLog_floor : PropOf K (ga K "ChangeLog") "floor" (ma K (ga K "ChangeLog") "floor") (gtA "ChangeLog" "floor" K)
  o_ChangeLog : OwnC K (ga K "ChangeLog")
  q_ChangeLog : OwnK K (ga K "ChangeLog")
  f_ChangeLog : ∀ T ∈ all7, PySem.W.notFirst K (ga K "ChangeLog") (.type T) = true
  x_ChangeLog_ne : NoNe K (ga K "ChangeLog")
  o_Recovery : OwnC K (ga K "Recovery")
  q_Recovery : OwnK K (ga K "Recovery")
  f_Recovery : ∀ T ∈ all7, PySem.W.notFirst K (ga K "Recovery") (.type T) = true
def tf : List (Frag → Addr) := []
/-- the tables and the names of their lambdas -/
def TL (K : Frag) : List (Addr × Str) := []
theorem tabs0 {K : Frag} {H : Hp} (h : ∀ p ∈ tf.map (cTA K), H p.2 = some (.tbl #[])) : LamX.Tabs (TL K) H := by
  intro p hp
  simp only [TL, List.mem_cons, List.not_mem_nil, or_false] at hp
/-- the tables -/
abbrev Tb (K : Frag) (mg : Str → Option Value) (base : Heap) : Prop := Tbs base mg (tf.map (cTA K))

def sp_is_integer (K : Frag) : Sp := fun vs H Q _ => ∃ x k, vs = [x] ∧ Is K H x k ∧ Q (.bl (k.isT "int" && !k.isT "bool")) H
theorem sc_is_integer : FnScope ["value"] ["value"] (defScope s_is_integer) := ⟨rfl, rfl, rfl, by decide +kernel, rfl, by decide +kernel, by decide +kernel⟩
theorem ok_is_integer {P : Program} {w : World} {K : Frag} {mg : Str → Option Value} {base : Heap} (T : Txt K mg) : FnB P w K mg base 1 (glA "is_integer" K) (sp_is_integer K) := by
  refine okD (N := ["value"]) (ps := ["value"]) (k := 0) (d := g_is_integer) T.d_is_integer rfl sc_is_integer (fun vs H Q E h => ?_) (fun _ _ _ _ _ _ us hl => match us, hl with | [_], _ => rfl) (fun A outer s H vs Q E hr h => ?_)
  · obtain ⟨x, k, rfl, hx, q⟩ := h
    rfl
  · have hu := hr.hu
    obtain ⟨x, k, rfl, hx, q⟩ := h
    refine ⟨_, PSs.nox ((pss_one (ps_ret (pe_and (pe_callB call_isi (by rfl) T.b_isinstance (by decide +kernel) (pa_cons (pv 0) (pa_cons (pe_bltn (v := .ty "int") (u := .type "int") (by rfl) T.b_int (by decide +kernel) rfl) pa_nil))) (pe_one (pe_not (pe_callB call_isi (by rfl) T.b_isinstance (by decide +kernel) (pa_cons (pv 0) (pa_cons (pe_bltn (v := .ty "bool") (u := .type "bool") (by rfl) T.b_bool (by decide +kernel) rfl) pa_nil))))))))), ?_⟩
    walk_at "nm"
    refine isi "int" hx ?_
    walk_at "nm"
    cases e : k.isT "int" with
    | false =>
      rw [e] at q
      exact iteF q
    | true =>
      rw [e] at q
      refine iteT ?_
      exact isi "bool" hx ⟨_, rfl, q⟩

def sp_in_range (K : Frag) : Sp := fun vs H Q _ => ∃ x k a b, vs = [x, .int a, .int b] ∧ Is K H x k ∧ Q (.bl (k.within a b)) H
theorem sc_in_range : FnScope ["value", "least", "most"] ["value", "least", "most"] (defScope s_in_range) := ⟨rfl, rfl, rfl, by decide +kernel, rfl, by decide +kernel, by decide +kernel⟩
theorem ok_in_range {P : Program} {w : World} {K : Frag} {mg : Str → Option Value} {base : Heap} (T : Txt K mg) : FnB P w K mg base 2 (glA "in_range" K) (sp_in_range K) := by
  refine okD (N := ["value", "least", "most"]) (ps := ["value", "least", "most"]) (k := 1) (d := g_in_range) T.d_in_range rfl sc_in_range (fun vs H Q E h => ?_) (fun _ _ _ _ _ _ us hl => match us, hl with | [_, _, _], _ => rfl) (fun A outer s H vs Q E hr h => ?_)
  · obtain ⟨x, k, a, b, rfl, hx, q⟩ := h
    rfl
  · have hu := hr.hu
    obtain ⟨x, k, a, b, rfl, hx, q⟩ := h
    refine ⟨_, PSs.nox ((pss_one (ps_ret (pe_and (pe_cF (ok_is_integer (K := K) T) hr T.m_is_integer passL (pa_cons (pv 0) pa_nil)) (pe_one (pe_chain op_le op_le (pv 1) (pv 0) (pv 2))))))), ?_⟩
    walk_at "st"
    refine ⟨x, k, rfl, hx, ?_⟩
    walk_at "st"
    cases hx with
    | int i =>
      refine iteT ?_
      walk_at "st"
      by_cases h : a ≤ i
      · rw [decide_eq_true h]
        refine iteT ?_
        walk_at "st"
        have e : (Kn.int i).within a b = decide (i ≤ b) := by simp [Kn.within, h]
        rw [e] at q
        exact q
      · rw [decide_eq_false h]
        have e : (Kn.int i).within a b = false := by simp [Kn.within, h]
        rw [e] at q
        exact iteF q
    | _ => exact iteF q

def sp_is_key (K : Frag) : Sp := fun vs H Q _ => ∃ x k, vs = [x] ∧ Is K H x k ∧ k.small ∧ ∀ H', Same H H' → Q (.bl k.isKey) H'
theorem sc_is_key : FnScope ["value", "sign"] ["value"] (defScope s_is_key) := ⟨rfl, rfl, rfl, by decide +kernel, rfl, by decide +kernel, by decide +kernel⟩
theorem ok_is_key {P : Program} {w : World} {K : Frag} {mg : Str → Option Value} {base : Heap} (T : Txt K mg) : FnB P w K mg base 1 (glA "is_key" K) (sp_is_key K) := by
  refine okD (N := ["value", "sign"]) (ps := ["value"]) (k := 0) (d := g_is_key) T.d_is_key rfl sc_is_key (fun vs H Q E h => ?_) (fun _ _ _ _ _ _ us hl => match us, hl with | [_], _ => rfl) (fun A outer s H vs Q E hr h => ?_)
  · obtain ⟨x, k, rfl, hx, hs, q⟩ := h
    rfl
  · have hu := hr.hu
    obtain ⟨x, k, rfl, hx, hs, q⟩ := h
    refine ⟨_, PSs.nox ((pss_cons (ps_if (PW.pt (pw_or (pt_not (pt_val (pe_callB call_isi (by rfl) T.b_isinstance (by decide +kernel) (pa_cons (pv 0) (pa_cons (pe_bltn (v := .ty "str") (u := .type "str") (by rfl) T.b_str (by decide +kernel) rfl) pa_nil))))) (pw_or1 (pt_not (pt_chain op_le op_le pe_int (pe_callB call_len_str (by rfl) T.b_len (by decide +kernel) (pa_cons (pv 0) pa_nil)) (pe_gc (by rfl) (gint T.v_MAX_LENGTH)))))))
        (pss_one (ps_ret pe_bl))
        pss_nil)
      (pss_one (ps_ret (pe_callB (cr_all rfl) (by rfl) T.b_all (by decide +kernel) (pa_cons (pe_lc (own := [("sign", 1)]) (g := gName 1) rfl sc_is_key.nd (pi_str (pv 0)) (blkOk_by (N := ["value", "sign"]) (sc := defScope s_is_key) (by decide +kernel)) (fun _ _ _ _ _ => pg_name (i := 1) sc_is_key.nd rfl (Or.inl rfl)) (fun _ _ _ _ _ => pts_nil) (fun _ _ _ _ _ => (pe_cmpR op_in_sign (pv 1) (pe_gc (by rfl) (gstr T.v_CHARACTERS)) (by rfl)))) pa_nil)))))), ?_⟩
    walk_at "nm"
    refine isi "str" hx ?_
    walk_at "nm"
    cases hx with
    | str z =>
      rw [if_neg (by simp [Kn.isT])]
      have hz : z.length ≤ 1000000 := hs
      refine ⟨z, rfl, (by rw [sizeLine_eq]; omega), ?_⟩
      have q' : ∀ b, b = isKeyL z.cps.toList → ∀ H', Same H H' → Q (.bl b) H' := fun b e H' s => by rw [e]; exact q H' s
      have hl := str_len z
      by_cases h1 : (1 : Int) ≤ (z.length : Int)
      · rw [if_pos h1]
        by_cases h2 : (z.length : Int) ≤ 20
        · rw [if_neg (by omega)]
          refine ⟨_, rfl, _, rfl, fun D hD => ?_⟩
          refine lc_pure walk_str (f := fun i => .bl (keySign (z.cps.toList.getD i 0))) (it := fun i => .str ⟨#[z.cps.toList.getD i 0]⟩) (by rw [cps_len]; omega) hD (fun _ _ => trivial) (fun i H x H' _ y => yStr i H x H' y) (by intro i; rfl) ?_ ?_
          · intro i hi H' Q' s k
            refine ⟨_, rfl, _, rfl, _, rfl, ?_⟩
            have e := chars_mem (z.cps.toList.getD i 0)
            unfold chars at e
            rw [e]
            exact k H' (Same.refl _)
          · intro H' s hl'
            rw [cps_len, map_getD_range z.cps.toList 0 (fun c => V.bl (keySign c))] at hl'
            refine ⟨D, z.cps.toList.map keySign, rfl, SqL.of (by rw [hl', List.map_map]; rfl), ?_⟩
            refine q' _ ?_ H' s
            unfold isKeyL
            rw [decide_eq_true (by omega), decide_eq_true (by omega), List.all_map]
            rfl
        · rw [if_pos (by omega)]
          refine q' _ ?_ H (Same.refl _)
          unfold isKeyL
          rw [decide_eq_false (p := z.cps.toList.length ≤ 20) (by omega)]
          simp
      · rw [if_neg h1]
        refine q' _ ?_ H (Same.refl _)
        unfold isKeyL
        rw [decide_eq_false (p := 1 ≤ z.cps.toList.length) (by omega)]
        simp
    | _ =>
      rw [if_pos (by simp [Kn.isT])]
      exact q H (Same.refl _)

def sp__law_hand (K : Frag) : Sp := fun vs H Q _ => ∃ (c : Addr) (ns : List Int) (k : Int), vs = [.ref c, .int k] ∧ SqL K H c (ns.map V.int) ∧ ns.length ≤ 1000 ∧ (0 ≤ k ∧ k ≤ 1000) ∧
  ∀ H' p, Same H H' → H p = none → PoolAt H' p → Q (.ref p) H'
theorem sc__law_hand : FnScope ["_law_script", "_law_k", "_law_cell", "_law_seed"] ["_law_script", "_law_k"] (defScope s__law_hand) := ⟨rfl, rfl, rfl, by decide +kernel, rfl, by decide +kernel, by decide +kernel⟩
theorem ok__law_hand {P : Program} {w : World} {K : Frag} {mg : Str → Option Value} {base : Heap} (T : Txt K mg) : FnB P w K mg base 1 (glA "_law_hand" K) (sp__law_hand K) := by
  refine okD (N := ["_law_script", "_law_k", "_law_cell", "_law_seed"]) (ps := ["_law_script", "_law_k"]) (k := 0) (d := g__law_hand) T.d__law_hand rfl sc__law_hand (fun vs H Q E h => ?_) (fun _ _ _ _ _ _ us hl => match us, hl with | [_, _], _ => rfl) (fun A outer s H vs Q E hr h => ?_)
  · obtain ⟨c, ns, k, rfl, hc, hl, hk, q⟩ := h
    rfl
  · have hu := hr.hu
    obtain ⟨c, ns, k, rfl, hc, hl, hk, q⟩ := h
    refine ⟨_, PSs.nox ((pss_cons (ps_set (i := 2) sc__law_hand.nd rfl (Or.inl rfl) (pe_ix ix_list (pe_op op_cat (pe_slice sl_list (pv 0) (po_some (pv 1)) (po_some (pe_op op_add (pv 1) pe_int))) (pe_lst (pa_cons pe_int pa_nil))) pe_int (fun _ _ => rfl)))
      (pss_cons (ps_set (i := 3) sc__law_hand.nd rfl (Or.inl rfl) (pe_op op_mod (pe_op op_mul (pe_op op_add (pe_op op_add (pe_op op_mod (pv 2) pe_int) (pe_op op_mul pe_int (pv 1))) pe_int) pe_int) pe_int))
      (pss_one (ps_ret (pe_lst (pa_cons (pe_op op_mul (pe_callTy call_int1 (by rfl) T.b_int (by decide +kernel) (pa_cons (pe_cmpR op_ge (pv 2) (pe_op op_pow pe_int pe_int) (nomark _)) pa_nil)) (pv 2)) (pa_cons (pv 3) pa_nil)))))))), ?_⟩
    walk_at "nm"
    refine ⟨c, _, rfl, hc, fun p1 hp1 => ?_⟩
    obtain ⟨l', el, hl'⟩ := cutV_int ns (some k) (some (k + 1))
    rw [el]
    refine ⟨(by rw [sizeLine_eq]; decide), fun p2 hp2 => ?_⟩
    refine ⟨p1, p2, _, _, rfl, rfl, upd_keep upd_same hp2, upd_same, (by rw [List.length_map, sizeLine_eq]; simp; omega), fun p3 hp3 => ?_⟩
    obtain ⟨v, ev⟩ := head_int l'
    refine ixL (SqL.of upd_same) ev ?_
    refine ⟨v, rfl, by decide, .inl ⟨by decide, by decide⟩, .inr ⟨by decide, by decide⟩, by decide, ⟨by decide, by decide, by decide⟩, v, rfl, .inr ⟨v, rfl, .inl ⟨?_, ?_⟩, ?_⟩⟩
    · split <;> decide
    · split <;> decide
    · refine ⟨(by rw [sizeLine_eq]; decide), fun p hp => ?_⟩
      have s1 : Same H (upd H p1 (.lst (l'.map V.int))) := Same.upd (Same.refl _) hp1
      have s2 := Same.upd (o := .lst [V.int 0]) s1 hp2
      have s3 := Same.upd (o := .lst (l'.map V.int ++ [V.int 0])) s2 hp3
      exact q _ p (Same.upd s3 hp) (s3.free hp) ⟨_, _, upd_same⟩

def sp__law_draw (K : Frag) : Sp := fun vs H Q _ => ∃ (a : Addr) (m : Int), vs = [.ref a, .int m] ∧ PoolAt H a ∧ 0 < m ∧ m < 1073741824 ∧
  ∀ v H', 0 ≤ v → v < m → PoolAt H' a → Ex a H H' → Q (.int v) H'
theorem sc__law_draw : FnScope ["_law_pool", "_law_size", "_law_found"] ["_law_pool", "_law_size"] (defScope s__law_draw) := ⟨rfl, rfl, rfl, by decide +kernel, rfl, by decide +kernel, by decide +kernel⟩
theorem ok__law_draw {P : Program} {w : World} {K : Frag} {mg : Str → Option Value} {base : Heap} (T : Txt K mg) : FnB P w K mg base 1 (glA "_law_draw" K) (sp__law_draw K) := by
  refine okD (N := ["_law_pool", "_law_size", "_law_found"]) (ps := ["_law_pool", "_law_size"]) (k := 0) (d := g__law_draw) T.d__law_draw rfl sc__law_draw (fun vs H Q E h => ?_) (fun _ _ _ _ _ _ us hl => match us, hl with | [_, _], _ => rfl) (fun A outer s H vs Q E hr h => ?_)
  · obtain ⟨a, m, rfl, ⟨p, r, ha⟩, m0, m1, q⟩ := h
    rfl
  · have hu := hr.hu
    obtain ⟨a, m, rfl, ⟨p, r, ha⟩, m0, m1, q⟩ := h
    refine ⟨_, PSs.nox ((pss_cons (ps_if (pt_cmpR op_gt (pe_ix ix_list (pv 0) pe_int (fun _ _ => rfl)) pe_int (nomark _))
        (pss_cons (ps_set (i := 2) sc__law_draw.nd rfl (Or.inl rfl) (pe_op op_mod (pe_ix ix_list (pv 0) pe_int (fun _ _ => rfl)) (pv 1)))
        (pss_cons (ps_asg (pe_op op_fdiv (pe_ix ix_list (pv 0) pe_int (fun _ _ => rfl)) (pv 1)) (pg_sub (pv 0) pe_int set_list))
        (pss_one (ps_ret (pv 2)))))
        pss_nil)
      (pss_cons (ps_asg (pe_op op_mod (pe_op op_add (pe_op op_mul (pe_ix ix_list (pv 0) pe_int (fun _ _ => rfl)) pe_int) pe_int) pe_int) (pg_sub (pv 0) pe_int set_list))
      (pss_one (ps_ret (pe_op op_mod (pe_op op_fdiv (pe_op op_mod (pe_op op_mul (pe_ix ix_list (pv 0) pe_int (fun _ _ => rfl)) (pe_ix ix_list (pv 0) pe_int (fun _ _ => rfl))) pe_int) pe_int) (pv 1))))))), ?_⟩
    walk_at "nm"
    refine ixL (SqL.of ha) rfl ⟨_, rfl, ?_⟩
    by_cases hp : 0 < p
    · rw [if_pos hp]
      refine ixL (SqL.of ha) rfl ⟨_, rfl, m0, ?_⟩
      refine ixL (SqL.of ha) rfl ⟨_, rfl, ⟨m0, m1⟩, ?_⟩
      refine setL ha rfl ?_
      exact q _ _ (Int.emod_nonneg _ (Int.ne_of_gt m0)) (Int.emod_lt_of_pos _ m0) ⟨_, _, upd_same⟩ Ex.refl.upd
    · rw [if_neg hp]
      refine ixL (SqL.of ha) rfl ⟨_, rfl, .inr ⟨by decide, by decide⟩, by decide, ?_⟩
      refine setL ha rfl ?_
      have e1 := Int.emod_nonneg (r * 48271 + 11) (show (2147483647 : Int) ≠ 0 by decide)
      have e2 := Int.emod_lt_of_pos (r * 48271 + 11) (show (0 : Int) < 2147483647 by decide)
      refine ixL (i := 1) (v := .int ((r * 48271 + 11) % 2147483647)) (SqL.of upd_same) rfl ?_
      refine ixL (i := 1) (v := .int ((r * 48271 + 11) % 2147483647)) (SqL.of upd_same) rfl ⟨_, rfl, _, rfl, .inl ⟨by omega, by omega⟩, by decide, ⟨by decide, by decide⟩, m0, ?_⟩
      exact q _ _ (Int.emod_nonneg _ (Int.ne_of_gt m0)) (Int.emod_lt_of_pos _ m0) ⟨_, _, upd_same⟩ Ex.refl.upd

theorem sc_InvalidNumber_init : FnScope ["self", "value"] ["self", "value"] (defScope s_InvalidNumber_init) := ⟨rfl, rfl, rfl, by decide +kernel, rfl, by decide +kernel, by decide +kernel⟩
theorem ok_InvalidNumber_init {P : Program} {w : World} {K : Frag} {mg : Str → Option Value} {base : Heap} (T : Txt K mg) : FnU P w K mg base 1 (mtA "InvalidNumber" "__init__" K) (spX1 (ga K "InvalidNumber") "value") := by
  refine okU (N := ["self", "value"]) (ps := ["self", "value"]) (k := 0) (d := g_InvalidNumber_init) T.d_InvalidNumber_init rfl sc_InvalidNumber_init (fun vs H Q E h => ?_) (fun _ _ _ _ _ _ us hl => match us, hl with | [_, _], _ => rfl) (fun cdv A outer s H vs Q E hr h => ?_)
  · obtain ⟨a, v0, rfl, hx, q⟩ := h
    rfl
  · obtain ⟨a, v0, rfl, hx, q⟩ := h
    refine ⟨_, PSs.nox (pss_one (ps_stG (pv 0) (pv 1))), ?_⟩
    refine ⟨_, rfl, _, rfl, a, _, rfl, T.r_InvalidNumber.o, T.xn_InvalidNumber_value, .inl ⟨hx, fun dx hd ne => ?_⟩⟩
    exact q dx hd ne

theorem sc_InvalidKey_init : FnScope ["self", "value"] ["self", "value"] (defScope s_InvalidKey_init) := ⟨rfl, rfl, rfl, by decide +kernel, rfl, by decide +kernel, by decide +kernel⟩
theorem ok_InvalidKey_init {P : Program} {w : World} {K : Frag} {mg : Str → Option Value} {base : Heap} (T : Txt K mg) : FnU P w K mg base 1 (mtA "InvalidKey" "__init__" K) (spX1 (ga K "InvalidKey") "value") := by
  refine okU (N := ["self", "value"]) (ps := ["self", "value"]) (k := 0) (d := g_InvalidKey_init) T.d_InvalidKey_init rfl sc_InvalidKey_init (fun vs H Q E h => ?_) (fun _ _ _ _ _ _ us hl => match us, hl with | [_, _], _ => rfl) (fun cdv A outer s H vs Q E hr h => ?_)
  · obtain ⟨a, v0, rfl, hx, q⟩ := h
    rfl
  · obtain ⟨a, v0, rfl, hx, q⟩ := h
    refine ⟨_, PSs.nox (pss_one (ps_stG (pv 0) (pv 1))), ?_⟩
    refine ⟨_, rfl, _, rfl, a, _, rfl, T.r_InvalidKey.o, T.xn_InvalidKey_value, .inl ⟨hx, fun dx hd ne => ?_⟩⟩
    exact q dx hd ne

theorem sc_InvalidPoint_init : FnScope ["self", "value"] ["self", "value"] (defScope s_InvalidPoint_init) := ⟨rfl, rfl, rfl, by decide +kernel, rfl, by decide +kernel, by decide +kernel⟩
theorem ok_InvalidPoint_init {P : Program} {w : World} {K : Frag} {mg : Str → Option Value} {base : Heap} (T : Txt K mg) : FnU P w K mg base 1 (mtA "InvalidPoint" "__init__" K) (spX1 (ga K "InvalidPoint") "value") := by
  refine okU (N := ["self", "value"]) (ps := ["self", "value"]) (k := 0) (d := g_InvalidPoint_init) T.d_InvalidPoint_init rfl sc_InvalidPoint_init (fun vs H Q E h => ?_) (fun _ _ _ _ _ _ us hl => match us, hl with | [_, _], _ => rfl) (fun cdv A outer s H vs Q E hr h => ?_)
  · obtain ⟨a, v0, rfl, hx, q⟩ := h
    rfl
  · obtain ⟨a, v0, rfl, hx, q⟩ := h
    refine ⟨_, PSs.nox (pss_one (ps_stG (pv 0) (pv 1))), ?_⟩
    refine ⟨_, rfl, _, rfl, a, _, rfl, T.r_InvalidPoint.o, T.xn_InvalidPoint_value, .inl ⟨hx, fun dx hd ne => ?_⟩⟩
    exact q dx hd ne

theorem sc_InvalidArc_init : FnScope ["self", "first", "second"] ["self", "first", "second"] (defScope s_InvalidArc_init) := ⟨rfl, rfl, rfl, by decide +kernel, rfl, by decide +kernel, by decide +kernel⟩
theorem ok_InvalidArc_init {P : Program} {w : World} {K : Frag} {mg : Str → Option Value} {base : Heap} (T : Txt K mg) : FnU P w K mg base 1 (mtA "InvalidArc" "__init__" K) (spX2 (ga K "InvalidArc") "first" "second") := by
  refine okU (N := ["self", "first", "second"]) (ps := ["self", "first", "second"]) (k := 0) (d := g_InvalidArc_init) T.d_InvalidArc_init rfl sc_InvalidArc_init (fun vs H Q E h => ?_) (fun _ _ _ _ _ _ us hl => match us, hl with | [_, _, _], _ => rfl) (fun cdv A outer s H vs Q E hr h => ?_)
  · obtain ⟨a, v0, v1, rfl, hx, q⟩ := h
    rfl
  · obtain ⟨a, v0, v1, rfl, hx, q⟩ := h
    refine ⟨_, PSs.nox (pss_cons (ps_stG (pv 0) (pv 1)) (pss_one (ps_stG (pv 0) (pv 2)))), ?_⟩
    refine ⟨_, rfl, _, rfl, a, _, rfl, T.r_InvalidArc.o, T.xn_InvalidArc_first, .inl ⟨hx, fun dx hd ne => ?_⟩⟩
    refine ⟨_, rfl, _, rfl, a, _, rfl, T.r_InvalidArc.o, T.xn_InvalidArc_second, .inr ⟨dx, _, upd_same, by rw [upd_ne ne, upd_same], by simp, ?_⟩⟩
    exact q dx hd ne

theorem sc_InvalidEntries_init : FnScope ["self", "position"] ["self", "position"] (defScope s_InvalidEntries_init) := ⟨rfl, rfl, rfl, by decide +kernel, rfl, by decide +kernel, by decide +kernel⟩
theorem ok_InvalidEntries_init {P : Program} {w : World} {K : Frag} {mg : Str → Option Value} {base : Heap} (T : Txt K mg) : FnU P w K mg base 1 (mtA "InvalidEntries" "__init__" K) (spX1 (ga K "InvalidEntries") "position") := by
  refine okU (N := ["self", "position"]) (ps := ["self", "position"]) (k := 0) (d := g_InvalidEntries_init) T.d_InvalidEntries_init rfl sc_InvalidEntries_init (fun vs H Q E h => ?_) (fun _ _ _ _ _ _ us hl => match us, hl with | [_, _], _ => rfl) (fun cdv A outer s H vs Q E hr h => ?_)
  · obtain ⟨a, v0, rfl, hx, q⟩ := h
    rfl
  · obtain ⟨a, v0, rfl, hx, q⟩ := h
    refine ⟨_, PSs.nox (pss_one (ps_stG (pv 0) (pv 1))), ?_⟩
    refine ⟨_, rfl, _, rfl, a, _, rfl, T.r_InvalidEntries.o, T.xn_InvalidEntries_position, .inl ⟨hx, fun dx hd ne => ?_⟩⟩
    exact q dx hd ne

def sp_check_number (K : Frag) : Sp := fun vs H Q E => ∃ x k a b, vs = [x, .int a, .int b] ∧ Is K H x k ∧ (k.within a b = true → Q .non H) ∧ (k.within a b = false → Out1 K E H "InvalidNumber" "value" x)
theorem sc_check_number : FnScope ["value", "least", "most"] ["value", "least", "most"] (defScope s_check_number) := ⟨rfl, rfl, rfl, by decide +kernel, rfl, by decide +kernel, by decide +kernel⟩
theorem ok_check_number {P : Program} {w : World} {K : Frag} {mg : Str → Option Value} {base : Heap} (T : Txt K mg) : FnB P w K mg base 3 (glA "check_number" K) (sp_check_number K) := by
  refine okD (N := ["value", "least", "most"]) (ps := ["value", "least", "most"]) (k := 2) (d := g_check_number) T.d_check_number rfl sc_check_number (fun vs H Q E h => ?_) (fun _ _ _ _ _ _ us hl => match us, hl with | [_, _, _], _ => rfl) (fun A outer s H vs Q E hr h => ?_)
  · obtain ⟨x, k, a, b, rfl, hx, q, qe⟩ := h
    rfl
  · have hu := hr.hu
    obtain ⟨x, k, a, b, rfl, hx, q, qe⟩ := h
    refine ⟨_, (pss_one (ps_if (pt_not (pt_val (pe_cF (ok_in_range (K := K) T) hr T.m_in_range passL (pa_cons (pv 0) (pa_cons (pv 1) (pa_cons (pv 2) pa_nil))))))
        (pss_one (ps_raiseC rfl (takes_of rfl rfl rfl rfl) T.r_InvalidNumber (ok_InvalidNumber_init (K := K) T) hr (pa_cons (pv 0) pa_nil)))
        pss_nil)), ?_⟩
    walk_at "nm"
    refine ⟨x, k, a, b, rfl, hx, ?_⟩
    walk_at "nm"
    cases e : k.within a b with
    | true =>
      rw [if_neg (by decide)]
      exact q e
    | false =>
      rw [if_pos rfl]
      exact (qe e).mk fun Q' q' => ⟨_, rfl, q'⟩

def sp_check_least (K : Frag) : Sp := fun vs H Q E => ∃ x k m, vs = [x, .int m] ∧ Is K H x k ∧ (k.least m = true → Q .non H) ∧ (k.least m = false → Out1 K E H "InvalidNumber" "value" x)
theorem sc_check_least : FnScope ["value", "least"] ["value", "least"] (defScope s_check_least) := ⟨rfl, rfl, rfl, by decide +kernel, rfl, by decide +kernel, by decide +kernel⟩
theorem ok_check_least {P : Program} {w : World} {K : Frag} {mg : Str → Option Value} {base : Heap} (T : Txt K mg) : FnB P w K mg base 3 (glA "check_least" K) (sp_check_least K) := by
  refine okD (N := ["value", "least"]) (ps := ["value", "least"]) (k := 2) (d := g_check_least) T.d_check_least rfl sc_check_least (fun vs H Q E h => ?_) (fun _ _ _ _ _ _ us hl => match us, hl with | [_, _], _ => rfl) (fun A outer s H vs Q E hr h => ?_)
  · obtain ⟨x, k, m, rfl, hx, q, qe⟩ := h
    rfl
  · have hu := hr.hu
    obtain ⟨x, k, m, rfl, hx, q, qe⟩ := h
    refine ⟨_, (pss_one (ps_if (PW.pt (pw_or (pt_not (pt_val (pe_cF (ok_is_integer (K := K) T) hr T.m_is_integer passL (pa_cons (pv 0) pa_nil)))) (pw_or1 (pt_cmpR op_lt (pv 0) (pv 1) (nomark _)))))
        (pss_one (ps_raiseC rfl (takes_of rfl rfl rfl rfl) T.r_InvalidNumber (ok_InvalidNumber_init (K := K) T) hr (pa_cons (pv 0) pa_nil)))
        pss_nil)), ?_⟩
    walk_at "nm"
    refine ⟨x, k, rfl, hx, ?_⟩
    rw [isInt_eq]
    walk_at "nm"
    cases hx with
    | int i =>
      rw [if_neg (by simp [Kn.isInt])]
      refine ⟨i, rfl, ?_⟩
      by_cases h : i < m
      · rw [if_pos h]
        exact (qe (decide_eq_false (by omega))).mk fun Q' q' => ⟨_, rfl, q'⟩
      · rw [if_neg h]
        exact q (decide_eq_true (by omega))
    | _ =>
      rw [if_pos (by rfl)]
      exact (qe rfl).mk fun Q' q' => ⟨_, rfl, q'⟩

def sp_check_key (K : Frag) : Sp := fun vs H Q E => ∃ x k, vs = [x] ∧ Is K H x k ∧ k.small ∧ (k.isKey = true → ∀ H', Same H H' → Q .non H') ∧ (k.isKey = false → Out1 K E H "InvalidKey" "value" x)
theorem sc_check_key : FnScope ["value"] ["value"] (defScope s_check_key) := ⟨rfl, rfl, rfl, by decide +kernel, rfl, by decide +kernel, by decide +kernel⟩
theorem ok_check_key {P : Program} {w : World} {K : Frag} {mg : Str → Option Value} {base : Heap} (T : Txt K mg) : FnB P w K mg base 3 (glA "check_key" K) (sp_check_key K) := by
  refine okD (N := ["value"]) (ps := ["value"]) (k := 2) (d := g_check_key) T.d_check_key rfl sc_check_key (fun vs H Q E h => ?_) (fun _ _ _ _ _ _ us hl => match us, hl with | [_], _ => rfl) (fun A outer s H vs Q E hr h => ?_)
  · obtain ⟨x, k, rfl, hx, hs, q, qe⟩ := h
    rfl
  · have hu := hr.hu
    obtain ⟨x, k, rfl, hx, hs, q, qe⟩ := h
    refine ⟨_, (pss_one (ps_if (pt_not (pt_val (pe_cF (ok_is_key (K := K) T) hr T.m_is_key passL (pa_cons (pv 0) pa_nil))))
        (pss_one (ps_raiseC rfl (takes_of rfl rfl rfl rfl) T.r_InvalidKey (ok_InvalidKey_init (K := K) T) hr (pa_cons (pv 0) pa_nil)))
        pss_nil)), ?_⟩
    walk_at "nm"
    refine ⟨x, k, rfl, hx, hs, fun H1 s1 => ?_⟩
    walk_at "nm"
    cases e : k.isKey with
    | true =>
      rw [if_neg (by decide)]
      exact q e H1 s1
    | false =>
      rw [if_pos rfl]
      exact ((qe e).same s1).mk fun Q' q' => ⟨_, rfl, q'⟩

def sp_check_value (K : Frag) : Sp := fun vs H Q E => ∃ x k, vs = [x] ∧ Is K H x k ∧ (k.isInt = true → Q .non H) ∧ (k.isInt = false → Out1 K E H "InvalidNumber" "value" x)
theorem sc_check_value : FnScope ["value"] ["value"] (defScope s_check_value) := ⟨rfl, rfl, rfl, by decide +kernel, rfl, by decide +kernel, by decide +kernel⟩
theorem ok_check_value {P : Program} {w : World} {K : Frag} {mg : Str → Option Value} {base : Heap} (T : Txt K mg) : FnB P w K mg base 3 (glA "check_value" K) (sp_check_value K) := by
  refine okD (N := ["value"]) (ps := ["value"]) (k := 2) (d := g_check_value) T.d_check_value rfl sc_check_value (fun vs H Q E h => ?_) (fun _ _ _ _ _ _ us hl => match us, hl with | [_], _ => rfl) (fun A outer s H vs Q E hr h => ?_)
  · obtain ⟨x, k, rfl, hx, q, qe⟩ := h
    rfl
  · have hu := hr.hu
    obtain ⟨x, k, rfl, hx, q, qe⟩ := h
    refine ⟨_, (pss_one (ps_if (pt_not (pt_val (pe_cF (ok_is_integer (K := K) T) hr T.m_is_integer passL (pa_cons (pv 0) pa_nil))))
        (pss_one (ps_raiseC rfl (takes_of rfl rfl rfl rfl) T.r_InvalidNumber (ok_InvalidNumber_init (K := K) T) hr (pa_cons (pv 0) pa_nil)))
        pss_nil)), ?_⟩
    walk_at "nm"
    refine ⟨x, k, rfl, hx, ?_⟩
    rw [isInt_eq]
    walk_at "nm"
    cases e : k.isInt with
    | true =>
      rw [if_neg (by decide)]
      exact q e
    | false =>
      rw [if_pos rfl]
      exact (qe e).mk fun Q' q' => ⟨_, rfl, q'⟩

def sp_is_point (K : Frag) : Sp := fun vs H Q _ => ∃ x b, vs = [x] ∧ PtV K H x b ∧ ∀ H', Same H H' → Q (.bl b) H'
theorem sc_is_point : FnScope ["value", "text"] ["value"] (defScope s_is_point) := ⟨rfl, rfl, rfl, by decide +kernel, rfl, by decide +kernel, by decide +kernel⟩
theorem ok_is_point {P : Program} {w : World} {K : Frag} {mg : Str → Option Value} {base : Heap} (T : Txt K mg) : FnB P w K mg base 3 (glA "is_point" K) (sp_is_point K) := by
  refine okD (N := ["value", "text"]) (ps := ["value"]) (k := 2) (d := g_is_point) T.d_is_point rfl sc_is_point (fun vs H Q E h => ?_) (fun _ _ _ _ _ _ us hl => match us, hl with | [_], _ => rfl) (fun A outer s H vs Q E hr h => ?_)
  · obtain ⟨x, b, rfl, hx, q⟩ := h
    rfl
  · have hu := hr.hu
    obtain ⟨x, b, rfl, hx, q⟩ := h
    refine ⟨_, PSs.nox ((pss_cons (ps_if (PW.pt (pw_or (pt_not (pt_val (pe_callB call_isi (by rfl) T.b_isinstance (by decide +kernel) (pa_cons (pv 0) (pa_cons (pe_bltn (v := .ty "tuple") (u := .type "tuple") (by rfl) T.b_tuple (by decide +kernel) rfl) pa_nil))))) (pw_or (pt_cmpR op_ne (pe_callB call_len_seq (by rfl) T.b_len (by decide +kernel) (pa_cons (pv 0) pa_nil)) pe_int (nomark _)) (pw_or1 (pt_not (pt_val (pe_cF (ok_in_range (K := K) T) hr T.m_in_range passL (pa_cons (pe_ix ix_tup (pv 0) pe_int (fun _ _ => rfl)) (pa_cons pe_int (pa_cons (pe_gc (by rfl) (gint T.v_MAX_NUMBER)) pa_nil))))))))))
        (pss_one (ps_ret pe_bl))
        pss_nil)
      (pss_cons (ps_set (i := 1) sc_is_point.nd rfl (Or.inl rfl) (pe_ix ix_tup (pv 0) pe_int (fun _ _ => rfl)))
      (pss_cons (ps_if (pt_not (pt_val (pe_callB call_isi (by rfl) T.b_isinstance (by decide +kernel) (pa_cons (pv 1) (pa_cons (pe_bltn (v := .ty "str") (u := .type "str") (by rfl) T.b_str (by decide +kernel) rfl) pa_nil)))))
        (pss_one (ps_ret pe_bl))
        pss_nil)
      (pss_cons (ps_if (pt_cmpR op_eq (pv 1) pe_str (nomark _))
        (pss_one (ps_ret pe_bl))
        pss_nil)
      (pss_cons (ps_if (pt_cmpR op_eq (pe_ix ix_tup (pv 0) pe_int (fun _ _ => rfl)) (pe_gc (by rfl) (gint T.v_MAX_NUMBER)) (nomark _))
        (pss_one (ps_ret pe_bl))
        pss_nil)
      (pss_one (ps_ret (pe_ifExp (pt_cmpR op_eq (pe_ix ix_str (pv 1) (pe_un un_neg pe_int) (fun _ _ => rfl)) (pe_gc (by rfl) (gstr T.v_BEHIND)) (nomark _)) (pe_cF (ok_is_key (K := K) T) hr T.m_is_key passL (pa_cons (pe_slice C8.sl_txt (pv 1) po_none (po_some (pe_un un_neg pe_int))) pa_nil)) (pe_cF (ok_is_key (K := K) T) hr T.m_is_key passL (pa_cons (pv 1) pa_nil))))))))))), ?_⟩
    walk_at "nm"
    cases hx with
    | no h hk =>
      refine isi "tuple" h ⟨_, rfl, ?_⟩
      rw [hk, if_pos rfl]
      exact q H (Same.refl _)
    | @len a l e hl hm =>
      refine isi "tuple" (.tup e) ⟨_, rfl, ?_⟩
      rw [if_neg (show ¬ (Kn.tup a l).isT "tuple" = false from fun z => by cases z)]
      refine ⟨_, rfl, _, .inr (SqT.of e), rfl, _, rfl, ?_⟩
      rw [if_pos (by simp; omega)]
      exact q H (Same.refl _)
    | @two a u t ku kt e hu' ht hs =>
      refine isi "tuple" (.tup e) ⟨_, rfl, ?_⟩
      rw [if_neg (show ¬ (Kn.tup a [u, t]).isT "tuple" = false from fun z => by cases z)]
      refine ⟨_, rfl, _, .inr (SqT.of e), rfl, _, rfl, ?_⟩
      rw [if_neg (by simp)]
      refine ixT (SqT.of e) rfl ⟨_, ku, _, _, rfl, hu', _, rfl, ?_⟩
      have q' : ∀ b, b = ptK ku kt → ∀ H', Same H H' → Q (.bl b) H' := fun b e H' s => by rw [e]; exact q H' s
      cases hw : ku.within 0 4294967296 with
      | false =>
        rw [if_pos rfl]
        refine q' _ ?_ H (Same.refl _)
        unfold ptK
        rw [hw]
        rfl
      | true =>
        rw [if_neg (by simp)]
        cases hu' with
        | int i =>
          refine ixT (SqT.of e) rfl ?_
          refine isi "str" ht ⟨_, rfl, ?_⟩
          cases ht with
          | str z =>
            rw [if_neg (show ¬ (Kn.str z).isT "str" = false from fun z => by cases z)]
            have hz : z.length ≤ 1000000 := hs
            have hzl := str_len z
            refine ⟨rfl, _, rfl, ?_⟩
            by_cases h0 : z = Str.ofString ""
            · rw [if_pos (by simp [h0])]
              refine q' _ ?_ H (Same.refl _)
              unfold ptK
              rw [hw, h0]
              rfl
            · rw [if_neg (by simpa using h0)]
              have hne : z.cps.toList ≠ [] := fun e => h0 (PySem.W.str_of_cps e)
              have he : z.cps.toList.isEmpty = false := by simpa using hne
              refine ixT (SqT.of e) rfl ⟨rfl, _, rfl, ?_⟩
              by_cases hi : i = 4294967296
              · rw [if_pos (by simp [hi])]
                refine q' _ ?_ H (Same.refl _)
                rw [ptK_is, hw, he, hi]
                rfl
              · rw [if_neg (by simpa using hi)]
                have hp : ptK (.int i) (.str z) = textOk z.cps.toList := by
                  rw [ptK_is, hw, he]
                  simp [hi]
                rw [hp] at q'
                obtain ⟨l, c, hlc⟩ : ∃ l c, z.cps.toList = l ++ [c] := ⟨_, _, (List.dropLast_concat_getLast hne).symm⟩
                have hS : z = SX.S (l ++ [c]) := by rw [← hlc, SX.S_tl]
                refine ⟨_, rfl, _, _, c, rfl, rfl, (by rw [sizeLine_eq]; omega), ?_, ?_⟩
                · rw [hlc]
                  exact atI_last l c
                · refine ⟨rfl, _, rfl, ?_⟩
                  by_cases hc : c = 33
                  · subst hc
                    rw [if_pos (by decide +kernel)]
                    refine ⟨_, rfl, _, rfl, z, rfl, (by rw [sizeLine_eq]; omega), ?_⟩
                    have hsl : Txt.slice z none (some (-1)) = SX.S l := by rw [hS]; exact SX.butlast_snoc l 33
                    have hll : z.cps.toList.length = l.length + 1 := by rw [hlc]; simp
                    rw [hsl]
                    refine ⟨_, .str _, rfl, .str _, ?_, fun H' s => q' _ ?_ H' s⟩
                    · show (SX.S l).length ≤ 1000000
                      rw [SX.S_len]
                      omega
                    · show isKeyL (SX.S l).cps.toList = _
                      rw [hlc, textOk_snoc, if_pos rfl, ]
                  · rw [if_neg (by rw [show Str.ofString "!" = ⟨#[33]⟩ by decide +kernel]; simpa using hc)]
                    refine ⟨_, .str z, rfl, .str z, hs, fun H' s => q' _ ?_ H' s⟩
                    show isKeyL z.cps.toList = _
                    rw [hlc, textOk_snoc, if_neg hc]
          | _ =>
            rw [if_pos (by rfl)]
            refine q' _ ?_ H (Same.refl _)
            unfold ptK
            rw [hw]
            rfl
        | _ => cases hw

def sp_check_point (K : Frag) : Sp := fun vs H Q E => ∃ x b, vs = [x] ∧ PtV K H x b ∧ (b = true → ∀ H', Same H H' → Q .non H') ∧ (b = false → Out1 K E H "InvalidPoint" "value" x)
theorem sc_check_point : FnScope ["value"] ["value"] (defScope s_check_point) := ⟨rfl, rfl, rfl, by decide +kernel, rfl, by decide +kernel, by decide +kernel⟩
theorem ok_check_point {P : Program} {w : World} {K : Frag} {mg : Str → Option Value} {base : Heap} (T : Txt K mg) : FnB P w K mg base 4 (glA "check_point" K) (sp_check_point K) := by
  refine okD (N := ["value"]) (ps := ["value"]) (k := 3) (d := g_check_point) T.d_check_point rfl sc_check_point (fun vs H Q E h => ?_) (fun _ _ _ _ _ _ us hl => match us, hl with | [_], _ => rfl) (fun A outer s H vs Q E hr h => ?_)
  · obtain ⟨x, b, rfl, hx, q, qe⟩ := h
    rfl
  · have hu := hr.hu
    obtain ⟨x, b, rfl, hx, q, qe⟩ := h
    refine ⟨_, (pss_one (ps_if (pt_not (pt_val (pe_cF (ok_is_point (K := K) T) hr T.m_is_point passL (pa_cons (pv 0) pa_nil))))
        (pss_one (ps_raiseC rfl (takes_of rfl rfl rfl rfl) T.r_InvalidPoint (ok_InvalidPoint_init (K := K) T) hr (pa_cons (pv 0) pa_nil)))
        pss_nil)), ?_⟩
    walk_at "nm"
    refine ⟨_, b, rfl, hx, fun H1 s1 => ?_⟩
    walk_at "nm"
    cases b with
    | true =>
      rw [if_neg (by decide)]
      exact q rfl H1 s1
    | false =>
      rw [if_pos rfl]
      exact ((qe rfl).same s1).mk fun Q' q' => ⟨_, rfl, q'⟩

def sp_Arc_init (K : Frag) : Sp := fun vs H Q E => ∃ (x dx : Addr) (u v : V), vs = [.ref x, u, v] ∧ H x = some (.ins (ga K "Arc") dx []) ∧
  ((PtV K H u false ∧ Out1 K E H "InvalidPoint" "value" u) ∨ (PtV K H u true ∧ PtV K H v false ∧ Out1 K E H "InvalidPoint" "value" v) ∨
   (∃ (a b : Addr) (p q : Pt), u = .ref a ∧ v = .ref b ∧ PtV K H u true ∧ PtV K H v true ∧ PtAt H a p ∧ PtAt H b q ∧
     ((ptLt p q = false ∧ Out2 K E H "InvalidArc" "first" "second" u v) ∨ (ptLt p q = true ∧ ∀ H', (∃ dx, H' x = some (.ins (ga K "Arc") dx [("own_start", u), ("own_end", v)])) → Ex x H H' → Q .non H'))))
theorem sc_Arc_init : FnScope ["self", "start", "end"] ["self", "start", "end"] (defScope s_Arc_init) := ⟨rfl, rfl, rfl, by decide +kernel, rfl, by decide +kernel, by decide +kernel⟩
theorem ok_Arc_init {P : Program} {w : World} {K : Frag} {mg : Str → Option Value} {base : Heap} (T : Txt K mg) : FnB P w K mg base 5 (mtA "Arc" "__init__" K) (sp_Arc_init K) := by
  refine okD (N := ["self", "start", "end"]) (ps := ["self", "start", "end"]) (k := 4) (d := g_Arc_init) T.d_Arc_init rfl sc_Arc_init (fun vs H Q E h => ?_) (fun _ _ _ _ _ _ us hl => match us, hl with | [_, _, _], _ => rfl) (fun A outer s H vs Q E hr h => ?_)
  · obtain ⟨x, dx, u, v, rfl, hx, q⟩ := h
    rfl
  · have hu := hr.hu
    obtain ⟨x, dx, u, v, rfl, hx, q⟩ := h
    refine ⟨_, (pss_cons (ps_expr (pe_cF (ok_check_point (K := K) T) hr T.m_check_point (passes_call (takes_of rfl rfl rfl rfl) (fun _ _ _ _ h => h)) (pa_cons (pv 1) pa_nil)))
      (pss_cons (ps_expr (pe_cF (ok_check_point (K := K) T) hr T.m_check_point (passes_call (takes_of rfl rfl rfl rfl) (fun _ _ _ _ h => h)) (pa_cons (pv 2) pa_nil)))
      (pss_cons (ps_if (pt_not (pt_cmpR (op_ltP (hu64 hr)) (pv 1) (pv 2) (nomark _)))
        (pss_one (ps_raiseC rfl (takes_of rfl rfl rfl rfl) T.r_InvalidArc (ok_InvalidArc_init (K := K) T) hr (pa_cons (pv 1) (pa_cons (pv 2) pa_nil))))
        pss_nil)
      (pss_cons (ps_fld (pv 0) (pv 1) rfl)
      (pss_one (ps_fld (pv 0) (pv 2) rfl)))))), ?_⟩
    walk_at "nm"
    rcases q with ⟨h1, o⟩ | ⟨h1, h2, o⟩ | ⟨a, b, p, r, rfl, rfl, h1, h2, hp, hr', q⟩
    · exact ⟨_, _, rfl, h1, (fun z => by cases z), fun _ => o⟩
    · refine ⟨_, _, rfl, h1, (fun _ H1 s1 => ?_), (fun z => by cases z)⟩
      exact ⟨_, _, rfl, h2.same s1, (fun z => by cases z), fun _ => o.same s1⟩
    · refine ⟨_, _, rfl, h1, (fun _ H1 s1 => ?_), (fun z => by cases z)⟩
      walk_at "nm"
      refine ⟨_, _, rfl, h2.same s1, (fun _ H2 s2 => ?_), (fun z => by cases z)⟩
      walk_at "nm"
      have s3 := s1.trans s2
      refine ⟨a, b, p, r, rfl, rfl, hp.same s3, hr'.same s3, _, rfl, ?_⟩
      rcases q with ⟨hl, o⟩ | ⟨hl, q⟩
      · rw [hl, if_pos rfl]
        exact (o.same s3).mk fun Q' q' => ⟨_, rfl, _, rfl, q'⟩
      · rw [hl, if_neg (by decide)]
        refine ⟨_, rfl, _, rfl, x, _, dx, [], rfl, s3 _ _ hx, T.c_Arc, T.n_Arc_own_start, (by decide), ?_⟩
        refine ⟨_, rfl, _, rfl, x, _, dx, _, rfl, upd_same, T.c_Arc, T.n_Arc_own_end, (by rw [putF0]; simp), ?_⟩
        refine q _ ⟨dx, ?_⟩ ((Ex.of_same s3).trans Ex.refl.upd.upd)
        rw [upd_same]
        walk_at "pf"

theorem newArc {K : Frag} {σ : L2.St} {t : TA} {H : Hp} {a b : Addr} {p r : Pt} {Q : VK} {E : XK} (ha : PtAt H a p) (hb : PtAt H b r) (h1 : isPt p = true) (h2 : isPt r = true) (l1 : p.2.length ≤ 1000000) (l2 : r.2.length ≤ 1000000) (lt : ptLt p r = true) (ht : ∀ Q' : List V → Hp → Prop, Q' [V.ref a, V.ref b] H → t σ H Q')
    (q : ∀ G x dx, Same H G → H x = none → G x = some (.ins (ga K "Arc") dx [("own_start", .ref a), ("own_end", .ref b)]) → Q (.ref x) G) : tMake (ga K "Arc") (sp_Arc_init K) [] E t σ H Q := by
  refine ht _ ?_
  intro x dx nx ndx ne
  have s := same_made (o := .own x) (C := ga K "Arc") (fs := []) nx ndx ne
  have ha' := ha.same s
  have hb' := hb.same s
  exact ⟨x, dx, .ref a, .ref b, rfl, upd_same, .inr (.inr ⟨a, b, p, r, rfl, rfl, ha'.ptv h1 l1, hb'.ptv h2 l2, ha', hb', .inr ⟨lt, fun G hx ex => ⟨rfl, let ⟨ldx, hx⟩ := hx; q G x ldx (fun c o h => ex c o (ne_of_none h nx) (s c o h)) nx hx⟩⟩⟩)⟩

theorem newArcT {K : Frag} {σ : L2.St} {t : TA} {H : Hp} {p r : Pt} {Q : VK} {E : XK} (h1 : isPt p = true) (h2 : isPt r = true) (l1 : p.2.length ≤ 1000000) (l2 : r.2.length ≤ 1000000) (lt : ptLt p r = true) (ht : ∀ Q' : List V → Hp → Prop, (∀ G a b, Same H G → PtAt G a p → PtAt G b r → Q' [V.ref a, V.ref b] G) → t σ H Q')
    (q : ∀ G x dx a b, Same H G → H x = none → PtAt G a p → PtAt G b r → G x = some (.ins (ga K "Arc") dx [("own_start", .ref a), ("own_end", .ref b)]) → Q (.ref x) G) : tMake (ga K "Arc") (sp_Arc_init K) [] E t σ H Q := by
  refine ht _ fun G1 a b s1 ha hb => ?_
  intro x dx nx ndx ne
  have s := same_made (o := .own x) (C := ga K "Arc") (fs := []) nx ndx ne
  have ha' := ha.same s
  have hb' := hb.same s
  refine ⟨x, dx, .ref a, .ref b, rfl, upd_same, .inr (.inr ⟨a, b, p, r, rfl, rfl, ha'.ptv h1 l1, hb'.ptv h2 l2, ha', hb', .inr ⟨lt, fun G hx ex => ⟨rfl, ?_⟩⟩⟩)⟩
  obtain ⟨ldx, hx⟩ := hx
  have s3 : Same G1 G := fun c o h => ex c o (ne_of_none h nx) (s c o h)
  exact q G x ldx a b (s1.trans s3) (s1.free nx) (ha.same s3) (hb.same s3) hx

def sp_ChangeLog_init (K : Frag) : Sp := fun vs H Q E => ∃ (x dx : Addr) (v : V) (k : Kn), vs = [.ref x, v] ∧ H x = some (.ins (ga K "ChangeLog") dx []) ∧ Is K H v k ∧
  ((k.within 0 1000 = false ∧ Out1 K E H "InvalidNumber" "value" v) ∨ (∃ b : Int, v = .int b ∧ 0 ≤ b ∧ b ≤ 1000 ∧ ∀ H' L, LogAt K H' x L b 0 [] [] → Ex x H H' → H L = none → Q .non H'))
theorem sc_ChangeLog_init : FnScope ["self", "bound"] ["self", "bound"] (defScope s_ChangeLog_init) := ⟨rfl, rfl, rfl, by decide +kernel, rfl, by decide +kernel, by decide +kernel⟩
theorem ok_ChangeLog_init {P : Program} {w : World} {K : Frag} {mg : Str → Option Value} {base : Heap} (T : Txt K mg) : FnB P w K mg base 4 (mtA "ChangeLog" "__init__" K) (sp_ChangeLog_init K) := by
  refine okD (N := ["self", "bound"]) (ps := ["self", "bound"]) (k := 3) (d := g_ChangeLog_init) T.d_ChangeLog_init rfl sc_ChangeLog_init (fun vs H Q E h => ?_) (fun _ _ _ _ _ _ us hl => match us, hl with | [_, _], _ => rfl) (fun A outer s H vs Q E hr h => ?_)
  · obtain ⟨x, dx, v, k, rfl, hx, hk, q⟩ := h
    rfl
  · have hu := hr.hu
    obtain ⟨x, dx, v, k, rfl, hx, hk, q⟩ := h
    refine ⟨_, (pss_cons (ps_expr (pe_cF (ok_check_number (K := K) T) hr T.m_check_number (passes_call (takes_of rfl rfl rfl rfl) (fun _ _ _ _ h => h)) (pa_cons (pv 1) (pa_cons pe_int (pa_cons (pe_gc (by rfl) (gint T.v_MAX_BOUND)) pa_nil)))))
      (pss_cons (ps_fld (pv 0) (pv 1) rfl)
      (pss_cons (ps_fld (pv 0) pe_int rfl)
      (pss_one (ps_fld (pv 0) (pe_lst pa_nil) rfl))))), ?_⟩
    walk_at "nm"
    rcases q with ⟨h1, o⟩ | ⟨b, rfl, b0, b1, q⟩
    · exact ⟨_, k, _, _, rfl, hk, (fun z => by rw [h1] at z; cases z), fun _ => o⟩
    · refine ⟨_, .int b, _, _, rfl, .int b, (fun _ => ?_), fun z => absurd z (by simp [Kn.within]; omega)⟩
      walk_at "nm"
      refine ⟨_, rfl, _, rfl, x, _, dx, [], rfl, hx, T.c_ChangeLog, T.n_ChangeLog_own_bound, (by decide), ?_⟩
      refine ⟨_, rfl, x, _, dx, _, rfl, upd_same, T.c_ChangeLog, T.n_ChangeLog_own_floor, (by rw [putF0]; simp), ?_⟩
      refine ⟨by rw [sizeLine_eq]; decide, fun L hL => ?_⟩
      have hLx : L ≠ x := fun z => by
        rw [z, upd_same] at hL
        cases hL
      have hL0 : H L = none := by
        rw [upd_ne hLx, upd_ne hLx] at hL
        exact hL
      refine ⟨_, rfl, x, _, dx, _, rfl, upd_keep upd_same hL, T.c_ChangeLog, T.n_ChangeLog_own_changes, (by walk_at "pf"; simp), ?_⟩
      refine q _ L ⟨⟨dx, ?_⟩, ?_, .nil, (fun r hr => by cases hr), by decide⟩ ?_ hL0
      · rw [upd_same]
        walk_at "pf"
      · rw [upd_ne hLx, upd_same]
        rfl
      · intro c o hc e
        rw [upd_ne hc, upd_ne (ne_of_none e hL0), upd_ne hc, upd_ne hc]
        exact e

def sp_ChangeLog_bound (K : Frag) : Sp := fun vs H Q _ => ∃ (x L : Addr) (b f : Int) (as : List Addr) (rs : List LRow), vs = [.ref x] ∧ LogAt K H x L b f as rs ∧ Q (.int b) H
theorem sc_ChangeLog_bound : FnScope ["self"] ["self"] (defScope s_ChangeLog_bound) := ⟨rfl, rfl, rfl, by decide +kernel, rfl, by decide +kernel, by decide +kernel⟩
theorem ok_ChangeLog_bound {P : Program} {w : World} {K : Frag} {mg : Str → Option Value} {base : Heap} (T : Txt K mg) : FnB P w K mg base 1 (gtA "ChangeLog" "bound" K) (sp_ChangeLog_bound K) := by
  refine okD (N := ["self"]) (ps := ["self"]) (k := 0) (d := g_ChangeLog_bound) T.d_ChangeLog_bound rfl sc_ChangeLog_bound (fun vs H Q E h => ?_) (fun _ _ _ _ _ _ us hl => match us, hl with | [_], _ => rfl) (fun A outer s H vs Q E hr h => ?_)
  · obtain ⟨x, L, b, f, as, rs, rfl, ⟨⟨dx, hx⟩, _, _, _, _⟩, q⟩ := h
    rfl
  · have hu := hr.hu
    obtain ⟨x, L, b, f, as, rs, rfl, ⟨⟨dx, hx⟩, _, _, _, _⟩, q⟩ := h
    refine ⟨_, PSs.nox ((pss_one (ps_ret (pe_fld (pv 0) rfl)))), ?_⟩
    exact ⟨_, rfl, x, _, dx, _, _, rfl, hx, T.c_ChangeLog, T.n_ChangeLog_own_bound, (by walk_at "lk"), q⟩

def sp_ChangeLog_floor (K : Frag) : Sp := fun vs H Q _ => ∃ (x L : Addr) (b f : Int) (as : List Addr) (rs : List LRow), vs = [.ref x] ∧ LogAt K H x L b f as rs ∧ Q (.int f) H
theorem sc_ChangeLog_floor : FnScope ["self"] ["self"] (defScope s_ChangeLog_floor) := ⟨rfl, rfl, rfl, by decide +kernel, rfl, by decide +kernel, by decide +kernel⟩
theorem ok_ChangeLog_floor {P : Program} {w : World} {K : Frag} {mg : Str → Option Value} {base : Heap} (T : Txt K mg) : FnB P w K mg base 1 (gtA "ChangeLog" "floor" K) (sp_ChangeLog_floor K) := by
  refine okD (N := ["self"]) (ps := ["self"]) (k := 0) (d := g_ChangeLog_floor) T.d_ChangeLog_floor rfl sc_ChangeLog_floor (fun vs H Q E h => ?_) (fun _ _ _ _ _ _ us hl => match us, hl with | [_], _ => rfl) (fun A outer s H vs Q E hr h => ?_)
  · obtain ⟨x, L, b, f, as, rs, rfl, ⟨⟨dx, hx⟩, _, _, _, _⟩, q⟩ := h
    rfl
  · have hu := hr.hu
    obtain ⟨x, L, b, f, as, rs, rfl, ⟨⟨dx, hx⟩, _, _, _, _⟩, q⟩ := h
    refine ⟨_, PSs.nox ((pss_one (ps_ret (pe_fld (pv 0) rfl)))), ?_⟩
    exact ⟨_, rfl, x, _, dx, _, _, rfl, hx, T.c_ChangeLog, T.n_ChangeLog_own_floor, (by walk_at "lk"), q⟩

def sp_ChangeLog_len (K : Frag) : Sp := fun vs H Q _ => ∃ (x L : Addr) (b f : Int) (as : List Addr) (rs : List LRow), vs = [.ref x] ∧ LogAt K H x L b f as rs ∧ Q (.int (rs.length : Nat)) H
theorem sc_ChangeLog_len : FnScope ["self"] ["self"] (defScope s_ChangeLog_len) := ⟨rfl, rfl, rfl, by decide +kernel, rfl, by decide +kernel, by decide +kernel⟩
theorem ok_ChangeLog_len {P : Program} {w : World} {K : Frag} {mg : Str → Option Value} {base : Heap} (T : Txt K mg) : FnB P w K mg base 1 (mtA "ChangeLog" "__len__" K) (sp_ChangeLog_len K) := by
  refine okD (N := ["self"]) (ps := ["self"]) (k := 0) (d := g_ChangeLog_len) T.d_ChangeLog_len rfl sc_ChangeLog_len (fun vs H Q E h => ?_) (fun _ _ _ _ _ _ us hl => match us, hl with | [_], _ => rfl) (fun A outer s H vs Q E hr h => ?_)
  · obtain ⟨x, L, b, f, as, rs, rfl, ⟨⟨dx, hx⟩, hl, hr', _, _⟩, q⟩ := h
    rfl
  · have hu := hr.hu
    obtain ⟨x, L, b, f, as, rs, rfl, ⟨⟨dx, hx⟩, hl, hr', _, _⟩, q⟩ := h
    refine ⟨_, PSs.nox ((pss_one (ps_ret (pe_callB call_len_seq (by rfl) T.b_len (by decide +kernel) (pa_cons (pe_fld (pv 0) rfl) pa_nil))))), ?_⟩
    walk_at "nm"
    refine ⟨_, rfl, x, _, dx, _, _, rfl, hx, T.c_ChangeLog, T.n_ChangeLog_own_changes, (by walk_at "lk"), ?_⟩
    refine ⟨L, rfl, _, .inl (SqL.of hl), ?_⟩
    rw [List.length_map, hr'.len]
    exact q

def sp_ChangeLog_changes (K : Frag) : Sp := fun vs H Q _ => ∃ (x L : Addr) (b f : Int) (as : List Addr) (rs : List LRow), vs = [.ref x] ∧ LogAt K H x L b f as rs ∧ ∀ p, H p = none → Q (.ref p) (upd H p (.lst (as.map V.ref)))
theorem sc_ChangeLog_changes : FnScope ["self"] ["self"] (defScope s_ChangeLog_changes) := ⟨rfl, rfl, rfl, by decide +kernel, rfl, by decide +kernel, by decide +kernel⟩
theorem ok_ChangeLog_changes {P : Program} {w : World} {K : Frag} {mg : Str → Option Value} {base : Heap} (T : Txt K mg) : FnB P w K mg base 1 (mtA "ChangeLog" "changes" K) (sp_ChangeLog_changes K) := by
  refine okD (N := ["self"]) (ps := ["self"]) (k := 0) (d := g_ChangeLog_changes) T.d_ChangeLog_changes rfl sc_ChangeLog_changes (fun vs H Q E h => ?_) (fun _ _ _ _ _ _ us hl => match us, hl with | [_], _ => rfl) (fun A outer s H vs Q E hr h => ?_)
  · obtain ⟨x, L, b, f, as, rs, rfl, ⟨⟨dx, hx⟩, hl, hr', _, _⟩, q⟩ := h
    rfl
  · have hu := hr.hu
    obtain ⟨x, L, b, f, as, rs, rfl, ⟨⟨dx, hx⟩, hl, hr', _, _⟩, q⟩ := h
    refine ⟨_, PSs.nox ((pss_one (ps_ret (pe_callTy call_list_of (by rfl) T.b_list (by decide +kernel) (pa_cons (pe_fld (pv 0) rfl) pa_nil))))), ?_⟩
    walk_at "nm"
    refine ⟨_, rfl, x, _, dx, _, _, rfl, hx, T.c_ChangeLog, T.n_ChangeLog_own_changes, (by walk_at "lk"), ?_⟩
    exact ⟨L, rfl, _, .inl (SqL.of hl), q⟩

def sp_ChangeLog_last (K : Frag) : Sp := fun vs H Q _ => ∃ (x L : Addr) (b f : Int) (as : List Addr) (rs : List LRow), vs = [.ref x] ∧ LogAt K H x L b f as rs ∧ ∀ H', Same H H' → Q (.int (lastOf f rs)) H'
theorem sc_ChangeLog_last : FnScope ["self"] ["self"] (defScope s_ChangeLog_last) := ⟨rfl, rfl, rfl, by decide +kernel, rfl, by decide +kernel, by decide +kernel⟩
theorem ok_ChangeLog_last {P : Program} {w : World} {K : Frag} {mg : Str → Option Value} {base : Heap} (T : Txt K mg) : FnB P w K mg base 1 (mtA "ChangeLog" "last" K) (sp_ChangeLog_last K) := by
  refine okD (N := ["self"]) (ps := ["self"]) (k := 0) (d := g_ChangeLog_last) T.d_ChangeLog_last rfl sc_ChangeLog_last (fun vs H Q E h => ?_) (fun _ _ _ _ _ _ us hl => match us, hl with | [_], _ => rfl) (fun A outer s H vs Q E hr h => ?_)
  · obtain ⟨x, L, b, f, as, rs, rfl, hg, q⟩ := h
    rfl
  · have hu := hr.hu
    obtain ⟨x, L, b, f, as, rs, rfl, hg, q⟩ := h
    refine ⟨_, PSs.nox ((pss_one (ps_ret (pe_ifExp (pt_cmpR (op_neD (hu64 hr)) (pe_fld (pv 0) rfl) (pe_lst pa_nil) (nomark _)) (pe_ix ix_tup (pe_ix ix_list (pe_fld (pv 0) rfl) (pe_un un_neg pe_int) (fun _ _ => rfl)) pe_int (fun _ _ => rfl)) (pe_fld (pv 0) rfl))))), ?_⟩
    have hg0 := hg
    obtain ⟨⟨dx, hx⟩, hl, hr', ho, hf⟩ := hg0
    walk_at "nm"
    refine ⟨_, rfl, x, _, dx, _, _, rfl, hx, T.c_ChangeLog, T.n_ChangeLog_own_changes, (by walk_at "lk"), ?_⟩
    refine ⟨by rw [sizeLine_eq]; first | decide | simp, fun p1 n1 => ?_⟩
    generalize hg : upd _ p1 _ = G1
    have s1 := sameOf n1 hg
    have h1 := atOf hg
    clear hg
    refine ⟨.list (rs.map rowD), .list [], .lst (SqL.of (s1 _ _ hl)) (hr'.tk (.same s1)).dps, .lst (SqL.of h1) .nil, shaped_rows ho, by decide +kernel, ?_⟩
    refine ⟨_, rfl, ?_⟩
    have e0 : PyData.eqv (.list (rs.map rowD)) (.list []) = decide (rs = []) := by
      show PyData.eqvAll (rs.map rowD) (List.map rowD []) = _
      exact eqv_rows rs []
    rw [e0]
    by_cases hn : rs = []
    · subst hn
      rw [if_neg (by simp)]
      exact ⟨_, rfl, x, _, dx, _, _, rfl, s1 _ _ hx, T.c_ChangeLog, T.n_ChangeLog_own_floor, (by walk_at "lk"), q G1 s1⟩
    · rw [if_pos (by simpa using hn)]
      refine ⟨_, rfl, x, _, dx, _, _, rfl, s1 _ _ hx, T.c_ChangeLog, T.n_ChangeLog_own_changes, (by walk_at "lk"), ?_⟩
      obtain ⟨ini, r, rfl⟩ : ∃ ini r, rs = ini ++ [r] := ⟨_, _, (List.dropLast_concat_getLast hn).symm⟩
      obtain ⟨a, ea, ha⟩ := hr'.at' (i := ini.length) (r := r) (by simp)
      have hlen := hr'.len
      obtain ⟨ai, rfl⟩ : ∃ ai, as = ai ++ [a] := by
        refine ⟨as.take ini.length, ?_⟩
        have h2 : as.length = ini.length + 1 := by rw [hlen]; simp
        have h3 := List.take_append_drop ini.length as
        have h4 : as.drop ini.length = [a] := by
          rw [List.drop_eq_getElem_cons (by omega)]
          have h5 := (List.getElem?_eq_some_iff.mp ea).2
          rw [h5, List.drop_eq_nil_of_le (by omega)]
        rw [h4] at h3
        exact h3.symm
      refine ⟨1, rfl, ?_⟩
      refine ixL (SqL.of (s1 _ _ hl)) (v := .ref a) (by rw [List.map_append]; exact L2.atI_last _ _) ?_
      refine ixT (SqT.of (s1 _ _ ha)) (v := .int r.1) rfl ?_
      have e1 : lastOf f (ini ++ [r]) = r.1 := by simp [lastOf]
      rw [← e1]
      exact q G1 s1

/-- the floor behind n rows that are dropped -/
def floorOf (f : Int) (rs : List LRow) : Nat → Int
  | 0 => f
  | n + 1 => match rs[n]? with
    | some r => r.1
    | none => f
def sp_ChangeLog_trim (K : Frag) : Sp := fun vs H Q _ => ∃ (x L : Addr) (b f : Int) (as : List Addr) (rs : List LRow), vs = [.ref x] ∧ LogAt K H x L b f as rs ∧ 0 ≤ b ∧
  ∀ H', LogAt K H' x L b (floorOf f rs (rs.length - b.toNat)) (as.drop (rs.length - b.toNat)) (rs.drop (rs.length - b.toNat)) → Ex2 x L H H' → Tk H H' → Q .non H'
theorem sc_ChangeLog_trim : FnScope ["self"] ["self"] (defScope s_ChangeLog_trim) := ⟨rfl, rfl, rfl, by decide +kernel, rfl, by decide +kernel, by decide +kernel⟩
theorem ok_ChangeLog_trim {P : Program} {w : World} {K : Frag} {mg : Str → Option Value} {base : Heap} (T : Txt K mg) : FnB P w K mg base 1 (mtA "ChangeLog" "trim" K) (sp_ChangeLog_trim K) := by
  refine okD (N := ["self"]) (ps := ["self"]) (k := 0) (d := g_ChangeLog_trim) T.d_ChangeLog_trim rfl sc_ChangeLog_trim (fun vs H Q E h => ?_) (fun _ _ _ _ _ _ us hl => match us, hl with | [_], _ => rfl) (fun A outer s H vs Q E hr h => ?_)
  · obtain ⟨x, L, b, f, as, rs, rfl, hg, b0, q⟩ := h
    rfl
  · have hu := hr.hu
    obtain ⟨x, L, b, f, as, rs, rfl, hg, b0, q⟩ := h
    refine ⟨_, PSs.nox ((pss_one (ps_while PassesOwn.never (pt_cmpR op_gt (pe_callB call_len_seq (by rfl) T.b_len (by decide +kernel) (pa_cons (pe_fld (pv 0) rfl) pa_nil)) (pe_fld (pv 0) rfl) (nomark _))
        (pss_one (ps_fld (pv 0) (pe_ix ix_tup (pe_bm PySem.F.plainAttrs_list PySem.F.slot_list_pop PySem.F.type_list_pop mt_popAt (pe_fld (pv 0) rfl) (pa_cons pe_int pa_nil)) pe_int (fun _ _ => rfl)) rfl))))), ?_⟩
    walk_at "nm"
    refine ⟨fun m σ' H' => σ' = [some (.ref x)] ∧ ∃ i, i + m = rs.length - b.toNat ∧ LogAt K H' x L b (floorOf f rs i) (as.drop i) (rs.drop i) ∧ Ex2 x L H H' ∧ Tk H H', ⟨rs.length - b.toNat, rfl, 0, by omega, hg, Ex2.refl, Tk.refl⟩, ?_⟩
    rintro m σ' H' ⟨rfl, i, hi, hg', ex, tk⟩
    have hgg := hg'
    obtain ⟨⟨dx, hx⟩, hl, hr', ho, hf⟩ := hgg
    walk_at "nm"
    refine ⟨_, rfl, x, _, dx, _, _, rfl, hx, T.c_ChangeLog, T.n_ChangeLog_own_changes, (by walk_at "lk"), L, rfl, _, .inl (SqL.of hl), ?_⟩
    refine ⟨_, rfl, x, _, dx, _, _, rfl, hx, T.c_ChangeLog, T.n_ChangeLog_own_bound, (by walk_at "lk"), b, rfl, ?_⟩
    have hlen := hr'.len
    rw [List.length_map, hlen, List.length_drop]
    by_cases hc : b < ((rs.length - i : Nat) : Int)
    · rw [if_pos hc]
      obtain ⟨r, er⟩ : ∃ r, rs[i]? = some r := ⟨rs[i]'(by omega), List.getElem?_eq_getElem (by omega)⟩
      obtain ⟨a, ea, ha⟩ := hr'.at' (i := 0) (r := r) (by rw [List.getElem?_drop]; exact er)
      have hd : as.drop i = a :: as.drop (i + 1) := by
        rw [List.getElem?_drop, Nat.add_zero] at ea
        have h2 := (List.getElem?_eq_some_iff.mp ea)
        rw [List.drop_eq_getElem_cons h2.1]
        exact congrArg (· :: _) h2.2
      have hLx := hg'.ne.symm
      refine ⟨fun σ' H'' => σ' = [some (.ref x)] ∧ LogAt K H'' x L b (floorOf f rs (i + 1)) (as.drop (i + 1)) (rs.drop (i + 1)) ∧ Ex2 x L H H'' ∧ Tk H H'', fun σ' H'' ⟨e1, e2, e3, e4⟩ => ⟨m - 1, by omega, e1, i + 1, by omega, e2, e3, e4⟩, ?_⟩
      have hl2 : H' L = some (.lst (.ref a :: (as.drop (i + 1)).map V.ref)) := by
        rw [hl, hd]
        rfl
      refine ⟨_, rfl, x, _, dx, _, _, rfl, hx, T.c_ChangeLog, T.n_ChangeLog_own_changes, (by walk_at "lk"), isList hl2, L, _, 0, 0, .ref a, rfl, rfl, hl2, by decide, by decide, (by simp [seqIndex?]), rfl, ?_⟩
      have tk1 : Tk H' (upd H' L (.lst ((as.drop (i + 1)).map V.ref))) := Tk.upd hl2 (fun xs z => by cases z)
      rw [List.eraseIdx_cons_zero]
      dsimp only [tC]
      refine ixT (i := 0) (SqT.of (tk1 _ _ ha)) (v := .int r.1) rfl ?_
      refine ⟨_, rfl, x, _, dx, _, rfl, upd_other hg'.ne hx, T.c_ChangeLog, T.n_ChangeLog_own_floor, (by simp), ?_⟩
      have hx2 : (upd H' L (.lst ((as.drop (i + 1)).map V.ref))) x = some (.ins (ga K "ChangeLog") dx [("own_bound", .int b), ("own_floor", .int (floorOf f rs i)), ("own_changes", .ref L)]) := upd_other hg'.ne hx
      have tk2 := tk1.trans (Tk.upd (o' := .ins (ga K "ChangeLog") dx (putF "own_floor" (.int r.1) [("own_bound", .int b), ("own_floor", .int (floorOf f rs i)), ("own_changes", .ref L)])) hx2 (fun xs z => by cases z))
      refine ⟨rfl, ⟨⟨dx, ?_⟩, ?_, ?_, ?_, ?_⟩, ex.trans (Ex2.refl.upd2.upd1), tk.trans tk2⟩
      · rw [upd_same]
        have e1 : floorOf f rs (i + 1) = r.1 := by
          show (match rs[i]? with | some r => r.1 | none => f) = r.1
          rw [er]
        rw [e1]
        walk_at "pf"
      · rw [upd_ne hLx, upd_same]
      · have h1 := (hr'.drop 1).tk tk2
        rw [List.drop_drop, List.drop_drop] at h1
        exact h1
      · intro r' hr2
        exact ho r' (List.mem_of_mem_drop (i := 1) (by rw [List.drop_drop]; exact hr2))
      · rw [List.length_drop] at hf ⊢
        omega
    · rw [if_neg hc]
      have hi0 : i = rs.length - b.toNat := by omega
      subst hi0
      exact q H' hg' ex tk

/-- an old or new value as add takes it -/
def Kn.isVal : Kn → Bool
  | .non => true
  | .int _ => true
  | _ => false
theorem isVal_o {K : Frag} {H : Hp} {o : Option Int} {k : Kn} (h : Is K H (oV o) k) : ¬ Kn.isVal k = false := by
  cases o <;> (cases h; simp [Kn.isVal])
theorem val_if {K : Frag} {H : Hp} {v : V} {k : Kn} {E : XK} {N : Hp → Prop} (hv : Is K H v k) (hok : Kn.isVal k = true → N H) (ho : Kn.isVal k = false → Out1 K E H "InvalidNumber" "value" v) :
    if ¬v = V.non then sp_check_value K [v] H (fun _ H1 => N H1) E else N H := by
  cases hv with
  | non =>
    rw [if_neg (by simp)]
    exact hok rfl
  | int i =>
    rw [if_pos (by simp)]
    exact ⟨_, _, rfl, .int i, (fun _ => hok rfl), fun z => by cases z⟩
  | bl i =>
    rw [if_pos (by simp)]
    exact ⟨_, _, rfl, .bl i, (fun z => by cases z), fun _ => ho rfl⟩
  | str i =>
    rw [if_pos (by simp)]
    exact ⟨_, _, rfl, .str i, (fun z => by cases z), fun _ => ho rfl⟩
  | lst e =>
    rw [if_pos (by simp)]
    exact ⟨_, _, rfl, .lst e, (fun z => by cases z), fun _ => ho rfl⟩
  | tup e =>
    rw [if_pos (by simp)]
    exact ⟨_, _, rfl, .tup e, (fun z => by cases z), fun _ => ho rfl⟩
  | dct e =>
    rw [if_pos (by simp)]
    exact ⟨_, _, rfl, .dct e, (fun z => by cases z), fun _ => ho rfl⟩
  | ins e c =>
    rw [if_pos (by simp)]
    exact ⟨_, _, rfl, .ins e c, (fun z => by cases z), fun _ => ho rfl⟩

def sp_ChangeLog_add (K : Frag) : Sp := fun vs H Q E => ∃ (x L : Addr) (b f : Int) (as : List Addr) (rs : List LRow) (vm vk vo vn : V) (km kk ko kn : Kn), vs = [.ref x, vm, vk, vo, vn] ∧ LogAt K H x L b f as rs ∧ 0 ≤ b ∧ rs.length ≤ 5000 ∧ Is K H vm km ∧ Is K H vk kk ∧ kk.small ∧ Is K H vo ko ∧ Is K H vn kn ∧
  ((km.least (lastOf f rs + 1) = false ∧ Out1 K E H "InvalidNumber" "value" vm) ∨
   (km.least (lastOf f rs + 1) = true ∧ kk.isKey = false ∧ Out1 K E H "InvalidKey" "value" vk) ∨
   (km.least (lastOf f rs + 1) = true ∧ kk.isKey = true ∧ Kn.isVal ko = false ∧ Out1 K E H "InvalidNumber" "value" vo) ∨
   (km.least (lastOf f rs + 1) = true ∧ kk.isKey = true ∧ Kn.isVal ko = true ∧ Kn.isVal kn = false ∧ Out1 K E H "InvalidNumber" "value" vn) ∨
   (∃ r : LRow, km.least (lastOf f rs + 1) = true ∧ kk.isKey = true ∧ vm = .int r.1 ∧ vk = .str r.2.1 ∧ vo = oV r.2.2.1 ∧ vn = oV r.2.2.2 ∧
     ∀ H' n as', n = (rs ++ [r]).length - b.toNat → LogAt K H' x L b (floorOf f (rs ++ [r]) n) as' ((rs ++ [r]).drop n) → Ex2 x L H H' → Tk H H' → Q .non H'))
theorem sc_ChangeLog_add : FnScope ["self", "moment", "key", "old", "new", "value"] ["self", "moment", "key", "old", "new"] (defScope s_ChangeLog_add) := ⟨rfl, rfl, rfl, by decide +kernel, rfl, by decide +kernel, by decide +kernel⟩
theorem ok_ChangeLog_add {P : Program} {w : World} {K : Frag} {mg : Str → Option Value} {base : Heap} (T : Txt K mg) : FnB P w K mg base 4 (mtA "ChangeLog" "add" K) (sp_ChangeLog_add K) := by
  refine okD (N := ["self", "moment", "key", "old", "new", "value"]) (ps := ["self", "moment", "key", "old", "new"]) (k := 3) (d := g_ChangeLog_add) T.d_ChangeLog_add rfl sc_ChangeLog_add (fun vs H Q E h => ?_) (fun _ _ _ _ _ _ us hl => match us, hl with | [_, _, _, _, _], _ => rfl) (fun A outer s H vs Q E hr h => ?_)
  · obtain ⟨x, L, b, f, as, rs, vm, vk, vo, vn, km, kk, ko, kn, rfl, hg, b0, few, hm, hk, hks, ho, hn, q⟩ := h
    rfl
  · have hu := hr.hu
    obtain ⟨x, L, b, f, as, rs, vm, vk, vo, vn, km, kk, ko, kn, rfl, hg, b0, few, hm, hk, hks, ho, hn, q⟩ := h
    refine ⟨_, (pss_cons (ps_expr (pe_cF (ok_check_least (K := K) T) hr T.m_check_least (passes_call (takes_of rfl rfl rfl rfl) (fun _ _ _ _ h => h)) (pa_cons (pv 1) (pa_cons (pe_op op_add (pe_mtF0 (pv 0) T.c_ChangeLog T.e_ChangeLog_last (ok_ChangeLog_last (K := K) T) hr passL) pe_int) pa_nil))))
      (pss_cons (ps_expr (pe_cF (ok_check_key (K := K) T) hr T.m_check_key (passes_call (takes_of rfl rfl rfl rfl) (fun _ _ _ _ h => h)) (pa_cons (pv 2) pa_nil)))
      (pss_cons (ps_for (passes_of rfl) rfl (pi_tup (pe_tup (pa_cons (pv 3) (pa_cons (pv 4) pa_nil)))) (pg_name (i := 5) sc_ChangeLog_add.nd rfl (Or.inl rfl))
        (pss_one (ps_if (pt_cmpR op_notN (pv 5) pe_non (nomark _))
          (pss_one (ps_expr (pe_cF (ok_check_value (K := K) T) hr T.m_check_value (passes_call (takes_of rfl rfl rfl rfl) (fun _ _ _ _ h => h)) (pa_cons (pv 5) pa_nil))))
          pss_nil)))
      (pss_cons (ps_expr (pe_bm PySem.F.plainAttrs_list PySem.F.slot_list_append PySem.F.type_list_append mt_append (pe_fld (pv 0) rfl) (pa_cons (pe_tup (pa_cons (pv 1) (pa_cons (pv 2) (pa_cons (pv 3) (pa_cons (pv 4) pa_nil))))) pa_nil)))
      (pss_one (ps_expr (pe_mtF0 (pv 0) T.c_ChangeLog T.e_ChangeLog_trim (ok_ChangeLog_trim (K := K) T) hr passL))))))), ?_⟩
    walk_at "nm"
    obtain ⟨dx, hx⟩ := hg.ins
    refine ⟨_, rfl, x, dx, _, rfl, hx, (by rw [lookS (by decide +kernel), lookS (by decide +kernel), lookS (by decide +kernel)]; rfl), x, L, b, f, as, rs, rfl, hg, fun H1 s1 => ⟨_, rfl, ?_⟩⟩
    cases e : km.least (lastOf f rs + 1) with
    | false =>
      refine ⟨vm, km, _, rfl, hm.same s1, (fun z => by rw [e] at z; cases z), fun _ => ?_⟩
      rcases q with ⟨_, o⟩ | ⟨z, _⟩ | ⟨z, _⟩ | ⟨z, _⟩ | ⟨r, z, _⟩
      · exact o.same s1
      all_goals (rw [e] at z; cases z)
    | true =>
      refine ⟨vm, km, _, rfl, hm.same s1, (fun _ => ?_), fun z => by rw [e] at z; cases z⟩
      cases e2 : kk.isKey with
      | false =>
        refine ⟨vk, kk, rfl, hk.same s1, hks, (fun z => by rw [e2] at z; cases z), fun _ => ?_⟩
        rcases q with ⟨z, _⟩ | ⟨_, _, o⟩ | ⟨_, z, _⟩ | ⟨_, z, _⟩ | ⟨r, _, z, _⟩
        · rw [e] at z
          cases z
        · exact o.same s1
        all_goals (rw [e2] at z; cases z)
      | true =>
        refine ⟨vk, kk, rfl, hk.same s1, hks, (fun _ H2 s2 => ?_), fun z => by rw [e2] at z; cases z⟩
        have s12 := s1.trans s2
        have oo : Kn.isVal ko = false → Out1 K E H "InvalidNumber" "value" vo := fun e3 => by
          rcases q with ⟨z, _⟩ | ⟨_, z, _⟩ | ⟨_, _, _, o⟩ | ⟨_, _, z, _⟩ | ⟨r, _, _, _, _, rfl, _⟩
          · rw [e] at z; cases z
          · rw [e2] at z; cases z
          · exact o
          · rw [e3] at z; cases z
          · exact absurd e3 (isVal_o ho)
        have on : Kn.isVal ko = true → Kn.isVal kn = false → Out1 K E H "InvalidNumber" "value" vn := fun e3 e4 => by
          rcases q with ⟨z, _⟩ | ⟨_, z, _⟩ | ⟨_, _, z, _⟩ | ⟨_, _, _, _, o⟩ | ⟨r, _, _, _, _, _, rfl, _⟩
          · rw [e] at z; cases z
          · rw [e2] at z; cases z
          · rw [e3] at z; cases z
          · exact o
          · exact absurd e4 (isVal_o hn)
        walk_at "nm"
        refine ⟨_, rfl, _, rfl, by rw [sizeLine_eq]; simp, fun p1 n1 => ⟨p1, rfl, ⟨_, SqT.of upd_same⟩, for_tup (K := K) (a := p1) (xs := [vo, vn]) (fun i σ' H' => (∃ w, σ' = [some (.ref x), some vm, some vk, some vo, some vn, w]) ∧ Same H H' ∧ H' p1 = some (.tup [vo, vn]) ∧ (1 ≤ i → Kn.isVal ko = true) ∧ (2 ≤ i → Kn.isVal kn = true)) ⟨⟨_, rfl⟩, Same.upd s12 n1, upd_same, (fun z => absurd z (by decide)), fun z => absurd z (by decide)⟩ (fun i σ' H' _ p => SqT.of p.2.2.1) ?_ ?_⟩⟩
        · rintro i v σ' H' hv ⟨⟨w, rfl⟩, s3, h3, i1, i2⟩
          walk_at "nm"
          rcases i with _ | _ | i
          · cases hv
            exact val_if (N := fun H1 => (∃ w, some vo = w) ∧ Same H H1 ∧ H1 p1 = some (HO.tup [vo, vn]) ∧ (1 ≤ 0 + 1 → Kn.isVal ko = true) ∧ (2 ≤ 0 + 1 → Kn.isVal kn = true)) (ho.same s3) (fun z => ⟨⟨_, rfl⟩, s3, h3, fun _ => z, fun z2 => absurd z2 (by decide)⟩) (fun z => (oo z).same s3)
          · cases hv
            exact val_if (N := fun H1 => (∃ w, some vn = w) ∧ Same H H1 ∧ H1 p1 = some (HO.tup [vo, vn]) ∧ (1 ≤ 0 + 1 + 1 → Kn.isVal ko = true) ∧ (2 ≤ 0 + 1 + 1 → Kn.isVal kn = true)) (hn.same s3) (fun z => ⟨⟨_, rfl⟩, s3, h3, fun _ => i1 (by decide), fun _ => z⟩) (fun z => (on (i1 (by decide)) z).same s3)
          · simp at hv
        · rintro σ' H' ⟨⟨w, rfl⟩, s3, h3, i1, i2⟩
          have e3 := i1 (by simp)
          have e4 := i2 (by simp)
          obtain ⟨r, rfl, rfl, rfl, rfl, qq⟩ : ∃ r : LRow, vm = .int r.1 ∧ vk = .str r.2.1 ∧ vo = oV r.2.2.1 ∧ vn = oV r.2.2.2 ∧ ∀ H' n as', n = (rs ++ [r]).length - b.toNat → LogAt K H' x L b (floorOf f (rs ++ [r]) n) as' ((rs ++ [r]).drop n) → Ex2 x L H H' → Tk H H' → Q .non H' := by
            rcases q with ⟨z, _⟩ | ⟨_, z, _⟩ | ⟨_, _, z, _⟩ | ⟨_, _, _, z, _⟩ | ⟨r, _, _, h1, h2, h3, h4, q⟩
            · rw [e] at z; cases z
            · rw [e2] at z; cases z
            · rw [e3] at z; cases z
            · rw [e4] at z; cases z
            · exact ⟨r, h1, h2, h3, h4, q⟩
          walk_at "nm"
          have hg3 := hg.same s3
          have hne := hg3.ne
          obtain ⟨⟨dx3, hx3⟩, hl3, hr3, ho3, hf3⟩ := hg3
          refine ⟨_, rfl, x, _, dx3, _, _, rfl, hx3, T.c_ChangeLog, T.n_ChangeLog_own_changes, (by walk_at "lk"), isList hl3, _, rfl, _, rfl, _, rfl, _, rfl, by rw [sizeLine_eq]; simp, fun p2 n2 => ?_⟩
          refine ⟨L, _, _, rfl, rfl, upd_keep hl3 n2, (by rw [List.length_map, hr3.len, sizeLine_eq]; omega), ?_⟩
          have sA : Same H' (upd H' p2 (.tup (rowV r))) := Same.upd (Same.refl _) n2
          have hl4 := sA _ _ hl3
          have tA : Tk H' (upd (upd H' p2 (.tup (rowV r))) L (.lst (as.map V.ref ++ [.ref p2]))) := (Tk.same sA).trans (Tk.upd hl4 (fun xs z => by cases z))
          have hp2 : (upd (upd H' p2 (.tup (rowV r))) L (.lst (as.map V.ref ++ [.ref p2]))) p2 = some (.tup (rowV r)) := Tk.upd hl4 (fun xs z => by cases z) _ _ upd_same
          have hkk : PyData.strOk r.2.1 = true := by
            cases hk
            exact strOk_key e2
          have hg5 : LogAt K (upd (upd H' p2 (.tup (rowV r))) L (.lst (as.map V.ref ++ [.ref p2]))) x L b f (as ++ [p2]) (rs ++ [r]) := by
            refine ⟨⟨dx3, ?_⟩, ?_, (hr3.tk tA).app (.cons hp2 .nil), ?_, ?_⟩
            · rw [upd_ne hne]
              exact sA _ _ hx3
            · rw [upd_same, List.map_append]
              rfl
            · intro r' hr'
              rcases List.mem_append.mp hr' with h | h
              · exact ho3 r' h
              · rw [List.mem_singleton.mp h]
                exact hkk
            · rw [List.length_append]
              simp
              omega
          refine ⟨_, rfl, x, dx3, _, rfl, (by rw [upd_ne hne]; exact sA _ _ hx3), (by rw [lookS (by decide +kernel), lookS (by decide +kernel), lookS (by decide +kernel)]; rfl), x, L, b, f, _, _, rfl, hg5, b0, fun H6 hg6 ex6 tk6 => ?_⟩
          exact qq H6 _ _ rfl hg6 (((Ex2.same (s3.trans sA)).trans Ex2.refl.upd2).trans ex6) (((Tk.same s3).trans tA).trans tk6)

/-- what is_change asks of a value: a row, or none -/
inductive ChV (K : Frag) (H : Hp) : V → Option LRow → Prop
  | no {x : V} {k : Kn} (h : Is K H x k) (hk : k.isT "tuple" = false) : ChV K H x none
  | len {a : Addr} {l : List V} (e : H a = some (.tup l)) (hl : l.length ≠ 4) (hm : l.length ≤ 1000) : ChV K H (.ref a) none
  | odd0 {a : Addr} {u v w x : V} {k : Kn} (e : H a = some (.tup [u, v, w, x])) (h : Is K H u k) (hk : k.isInt = false) : ChV K H (.ref a) none
  | odd3 {a : Addr} {i : Int} {z : Str} {o : Option Int} {x : V} {k : Kn} (e : H a = some (.tup [.int i, .str z, oV o, x])) (hz : isKeyL z.cps.toList = true) (h : Is K H x k) (hn : x ≠ .non) (hk : k.isInt = false) : ChV K H (.ref a) none
  | row {a : Addr} {r : LRow} (e : H a = some (.tup (rowV r))) (hs : r.2.1.length ≤ 1000) (ho : PyData.strOk r.2.1 = true) : ChV K H (.ref a) (some r)
theorem ChV.same {K : Frag} {H H' : Hp} {v : V} {c : Option LRow} (h : ChV K H v c) (s : Same H H') : ChV K H' v c := by
  cases h with
  | no h hk => exact .no (h.same s) hk
  | len e hl hm => exact .len (s _ _ e) hl hm
  | odd0 e h hk => exact .odd0 (s _ _ e) (h.same s) hk
  | odd3 e hz h hn hk => exact .odd3 (s _ _ e) hz (h.same s) hn hk
  | row e hs ho => exact .row (s _ _ e) hs ho
def isChg (least : Int) : Option LRow → Bool
  | none => false
  | some (m, z, o, w) => decide (least < m) && (isKeyL z.cps.toList && (o.isSome || w.isSome))

/-! what stands in a journal -/
/-- a tuple, laid or known to its object -/
def TpV (H : Hp) (a : Addr) (us : List V) : Prop := H a = some (.tup us) ∨ FzT H a us
theorem TpV.sq {K : Frag} {H : Hp} {a : Addr} {us : List V} (h : TpV H a us) : SqT K H a us := by
  rcases h with h | h
  · exact SqT.of h
  · exact h.sq
theorem TpV.same {H H' : Hp} {a : Addr} {us : List V} (h : TpV H a us) (s : Same H H') : TpV H' a us := by
  rcases h with h | h
  · exact .inl (s _ _ h)
  · exact .inr (h.same s)
theorem TpV.isi {K : Frag} {H : Hp} {a : Addr} {us : List V} {R : VK} (h : TpV H a us) (q : R (.bl true) H) : rIsi K [.ref a, .ty "tuple"] H R := by
  rcases h with h | ⟨o, _, _, e⟩
  · exact Ah.isi "tuple" (.tup h) q
  · exact ⟨.ref a, .ty "tuple", _, _, true, rfl, .ty "tuple", .fTuple e, kit_ty (by decide +kernel), q⟩
/-- a list of changes, or none -/
inductive ChsV (K : Frag) (H : Hp) : V → Option (List (Option LRow)) → Prop
  | no {x : V} {k : Kn} (h : Is K H x k) (hk : k.isT "tuple" = false) : ChsV K H x none
  | tup {a : Addr} {us : List V} {cs : List (Option LRow)} (e : TpV H a us) (h : Paired (ChV K H) us cs) (few : us.length ≤ 1000) : ChsV K H (.ref a) (some cs)
theorem paired_imp {α β : Type} {R S : α → β → Prop} : ∀ {xs : List α} {ys : List β}, Paired R xs ys → (∀ x ∈ xs, ∀ y, R x y → S x y) → Paired S xs ys
  | _, _, .nil, _ => .nil
  | _, _, .cons h t, k => .cons (k _ List.mem_cons_self _ h) (paired_imp t fun x hx => k x (List.mem_cons_of_mem _ hx))
theorem ChsV.same {K : Frag} {H H' : Hp} {v : V} {c : Option (List (Option LRow))} (h : ChsV K H v c) (s : Same H H') : ChsV K H' v c := by
  cases h with
  | no h hk => exact .no (h.same s) hk
  | tup e h f => exact .tup (e.same s) (paired_imp h fun _ _ _ g => g.same s) f
def chsOk : Int → List (Option LRow) → Bool
  | _, [] => true
  | l, c :: cs => isChg l c && chsOk (match c with | some r => r.1 | none => l) cs
def chsOkO (l : Int) : Option (List (Option LRow)) → Bool
  | none => false
  | some cs => chsOk l cs
/-- a row of a content -/
inductive RwV (K : Frag) (H : Hp) : V → Option (Str × Int) → Prop
  | no {x : V} {k : Kn} (h : Is K H x k) (hk : k.isT "tuple" = false) : RwV K H x none
  | val {a : Addr} {z : Str} {x : V} {k : Kn} (e : H a = some (.tup [.str z, x])) (hz : isKeyL z.cps.toList = true) (h : Is K H x k) (hk : k.isInt = false) : RwV K H (.ref a) none
  | row {a : Addr} {z : Str} {v : Int} (e : H a = some (.tup [.str z, .int v])) (hs : z.length ≤ 1000) : RwV K H (.ref a) (some (z, v))
theorem RwV.same {K : Frag} {H H' : Hp} {v : V} {c : Option (Str × Int)} (h : RwV K H v c) (s : Same H H') : RwV K H' v c := by
  cases h with
  | no h hk => exact .no (h.same s) hk
  | val e hz h hk => exact .val (s _ _ e) hz (h.same s) hk
  | row e hs => exact .row (s _ _ e) hs
def rowOk : Option (Str × Int) → Bool
  | none => false
  | some (z, _) => isKeyL z.cps.toList
inductive RwsV (K : Frag) (H : Hp) : V → Option (List (Option (Str × Int))) → Prop
  | no {x : V} {k : Kn} (h : Is K H x k) (hk : k.isT "tuple" = false) : RwsV K H x none
  | tup {a : Addr} {us : List V} {cs : List (Option (Str × Int))} (e : TpV H a us) (h : Paired (RwV K H) us cs) (few : us.length ≤ 1000) : RwsV K H (.ref a) (some cs)
theorem RwsV.same {K : Frag} {H H' : Hp} {v : V} {c : Option (List (Option (Str × Int)))} (h : RwsV K H v c) (s : Same H H') : RwsV K H' v c := by
  cases h with
  | no h hk => exact .no (h.same s) hk
  | tup e h f => exact .tup (e.same s) (paired_imp h fun _ _ _ g => g.same s) f
def keyOf : Option (Str × Int) → Str
  | none => ""
  | some (z, _) => z
/-- the dict of the keys -/
def keysD (cs : List (Option (Str × Int))) : List (Key × V) := cs.foldl (fun kvs c => putK kvs (.inr (keyOf c)) (.bl true)) []
def rwsOkO : Option (List (Option (Str × Int))) → Bool
  | none => false
  | some cs => cs.all rowOk && decide ((keysD cs).length = cs.length)
theorem drop_at {α : Type} {xs : List α} {i : Nat} {x : α} (h : xs[i]? = some x) : xs.drop i = x :: xs.drop (i + 1) := by
  obtain ⟨h1, h2⟩ := List.getElem?_eq_some_iff.mp h
  rw [List.drop_eq_getElem_cons h1, h2]
theorem keysD_succ {cs : List (Option (Str × Int))} {i : Nat} {c : Option (Str × Int)} (h : cs[i]? = some c) : keysD (cs.take (i + 1)) = putK (keysD (cs.take i)) (.inr (keyOf c)) (.bl true) := by
  unfold keysD
  rw [List.take_add_one, h, List.foldl_append]
  rfl
theorem isChg_row {K : Frag} {H : Hp} {v : V} {c : Option LRow} {l : Int} (h : ChV K H v c) (g : isChg l c = true) : ∃ a r, v = .ref a ∧ c = some r ∧ H a = some (.tup (rowV r)) := by
  cases h with
  | row e _ _ => exact ⟨_, _, rfl, rfl, e⟩
  | no _ _ => cases g
  | len _ _ _ => cases g
  | odd0 _ _ _ => cases g
  | odd3 _ _ _ _ _ => cases g
theorem rowOk_row {K : Frag} {H : Hp} {v : V} {c : Option (Str × Int)} (h : RwV K H v c) (g : rowOk c = true) : ∃ b z n, v = .ref b ∧ c = some (z, n) ∧ H b = some (.tup [.str z, .int n]) := by
  cases h with
  | row e _ => exact ⟨_, _, _, rfl, rfl, e⟩
  | no _ _ => cases g
  | val _ _ _ _ => cases g
theorem eqIs {i j : Int} {H : Hp} {Q : VK} (q : Q (.bl (decide (i = j))) H) : rEq (.int i) (.int j) H Q := by
  refine ⟨rfl, ?_⟩
  have e : decide (V.int i = V.int j) = decide (i = j) := by simp
  rw [e]
  exact q
theorem same_own {H H' : Hp} {p : Addr} {o : HO} (h : H p = none) (s : Same H H') : Same H (upd H' p o) := fun b o' hb => by
  rw [upd_ne (ne_of_none hb h)]
  exact s b o' hb

def sp_is_amount (K : Frag) : Sp := fun vs H Q _ => ∃ (x : V) (k : Kn), vs = [x] ∧ Is K H x k ∧ Q (.bl (decide (x = .non) || k.isInt)) H
theorem sc_is_amount : FnScope ["value"] ["value"] (defScope s_is_amount) := ⟨rfl, rfl, rfl, by decide +kernel, rfl, by decide +kernel, by decide +kernel⟩
theorem ok_is_amount {P : Program} {w : World} {K : Frag} {mg : Str → Option Value} {base : Heap} (T : Txt K mg) : FnB P w K mg base 2 (glA "is_amount" K) (sp_is_amount K) := by
  refine okD (N := ["value"]) (ps := ["value"]) (k := 1) (d := g_is_amount) T.d_is_amount rfl sc_is_amount (fun vs H Q E h => ?_) (fun _ _ _ _ _ _ us hl => match us, hl with | [_], _ => rfl) (fun A outer s H vs Q E hr h => ?_)
  · obtain ⟨x, k, rfl, hx, q⟩ := h
    rfl
  · have hu := hr.hu
    obtain ⟨x, k, rfl, hx, q⟩ := h
    refine ⟨_, PSs.nox ((pss_one (ps_ret (pe_or (pe_cmpR op_isN (pv 0) pe_non (nomark _)) (pe_one (pe_cF (ok_is_integer (K := K) T) hr T.m_is_integer passL (pa_cons (pv 0) pa_nil))))))), ?_⟩
    walk_at "nm"
    by_cases e : x = .non
    · rw [if_pos e]
      rw [decide_eq_true e] at q
      exact q
    · rw [if_neg e]
      rw [decide_eq_false e] at q
      refine ⟨x, k, rfl, hx, ?_⟩
      rw [isInt_eq]
      exact q

def sp_is_change (K : Frag) : Sp := fun vs H Q _ => ∃ (x : V) (c : Option LRow) (least : Int), vs = [x, .int least] ∧ ChV K H x c ∧ ∀ H', Same H H' → Q (.bl (isChg least c)) H'
theorem sc_is_change : FnScope ["value", "least"] ["value", "least"] (defScope s_is_change) := ⟨rfl, rfl, rfl, by decide +kernel, rfl, by decide +kernel, by decide +kernel⟩
theorem ok_is_change {P : Program} {w : World} {K : Frag} {mg : Str → Option Value} {base : Heap} (T : Txt K mg) : FnB P w K mg base 3 (glA "is_change" K) (sp_is_change K) := by
  refine okD (N := ["value", "least"]) (ps := ["value", "least"]) (k := 2) (d := g_is_change) T.d_is_change rfl sc_is_change (fun vs H Q E h => ?_) (fun _ _ _ _ _ _ us hl => match us, hl with | [_, _], _ => rfl) (fun A outer s H vs Q E hr h => ?_)
  · obtain ⟨x, c, least, rfl, hx, q⟩ := h
    rfl
  · have hu := hr.hu
    obtain ⟨x, c, least, rfl, hx, q⟩ := h
    refine ⟨_, PSs.nox ((pss_cons (ps_if (PW.pt (pw_or (pt_not (pt_val (pe_callB call_isi (by rfl) T.b_isinstance (by decide +kernel) (pa_cons (pv 0) (pa_cons (pe_bltn (v := .ty "tuple") (u := .type "tuple") (by rfl) T.b_tuple (by decide +kernel) rfl) pa_nil))))) (pw_or (pt_cmpR op_ne (pe_callB call_len_seq (by rfl) T.b_len (by decide +kernel) (pa_cons (pv 0) pa_nil)) pe_int (nomark _)) (pw_or (pt_not (pt_val (pe_cF (ok_is_integer (K := K) T) hr T.m_is_integer passL (pa_cons (pe_ix ix_tup (pv 0) pe_int (fun _ _ => rfl)) pa_nil)))) (pw_or1 (pt_cmpR op_le (pe_ix ix_tup (pv 0) pe_int (fun _ _ => rfl)) (pv 1) (nomark _)))))))
        (pss_one (ps_ret pe_bl))
        pss_nil)
      (pss_cons (ps_if (PW.pt (pw_or (pt_not (pt_val (pe_cF (ok_is_key (K := K) T) hr T.m_is_key passL (pa_cons (pe_ix ix_tup (pv 0) pe_int (fun _ _ => rfl)) pa_nil)))) (pw_or (pt_not (pt_val (pe_cF (ok_is_amount (K := K) T) hr T.m_is_amount passL (pa_cons (pe_ix ix_tup (pv 0) pe_int (fun _ _ => rfl)) pa_nil)))) (pw_or1 (pt_not (pt_val (pe_cF (ok_is_amount (K := K) T) hr T.m_is_amount passL (pa_cons (pe_ix ix_tup (pv 0) pe_int (fun _ _ => rfl)) pa_nil))))))))
        (pss_one (ps_ret pe_bl))
        pss_nil)
      (pss_one (ps_ret (pe_or (pe_cmpR op_notN (pe_ix ix_tup (pv 0) pe_int (fun _ _ => rfl)) pe_non (nomark _)) (pe_one (pe_cmpR op_notN (pe_ix ix_tup (pv 0) pe_int (fun _ _ => rfl)) pe_non (nomark _))))))))), ?_⟩
    walk_at "nm"
    have no : ∀ H', Same H H' → isChg least c = false → Q (.bl false) H' := fun H' s e => by
      have := q H' s
      rwa [e] at this
    have r0 := Same.refl H
    cases hx with
    | no h hk =>
      refine isi "tuple" h ⟨_, rfl, ?_⟩
      rw [hk, if_pos rfl]
      exact no H r0 rfl
    | @len a l e hl hm =>
      refine isi "tuple" (.tup e) ⟨_, rfl, ?_⟩
      rw [if_neg (show ¬ (Kn.tup a l).isT "tuple" = false from fun z => by cases z)]
      refine ⟨a, rfl, l, .inr (SqT.of e), rfl, _, rfl, ?_⟩
      rw [if_pos (by simp; omega)]
      exact no H r0 rfl
    | @odd0 a u v w x k e h hk =>
      refine isi "tuple" (.tup e) ⟨_, rfl, ?_⟩
      rw [if_neg (show ¬ (Kn.tup a [u, v, w, x]).isT "tuple" = false from fun z => by cases z)]
      refine ⟨a, rfl, _, .inr (SqT.of e), rfl, _, rfl, ?_⟩
      rw [if_neg (by simp)]
      refine ixT (SqT.of e) rfl ⟨u, k, rfl, h, _, rfl, ?_⟩
      rw [isInt_eq, hk, if_pos rfl]
      exact no H r0 rfl
    | @odd3 a i z o x k e hz h hn hk =>
      refine isi "tuple" (.tup e) ⟨_, rfl, ?_⟩
      rw [if_neg (show ¬ (Kn.tup a [V.int i, V.str z, oV o, x]).isT "tuple" = false from fun z => by cases z)]
      refine ⟨a, rfl, _, .inr (SqT.of e), rfl, _, rfl, ?_⟩
      rw [if_neg (by simp)]
      refine ixT (SqT.of e) rfl ⟨_, .int i, rfl, .int i, _, rfl, ?_⟩
      rw [isInt_eq, if_neg (show ¬ (Kn.int i).isInt = false from fun z => by cases z)]
      refine ixT (SqT.of e) rfl ⟨_, rfl, ?_⟩
      by_cases h1 : i ≤ least
      · rw [if_pos h1]
        exact no H r0 rfl
      rw [if_neg h1]
      refine ixT (SqT.of e) rfl ⟨_, .str z, rfl, .str z, key_small hz, fun H1 s1 => ⟨_, rfl, ?_⟩⟩
      have e1 := s1 _ _ e
      rw [show (Kn.str z).isKey = true from hz, if_neg (by decide)]
      refine ixT (SqT.of e1) rfl ?_
      obtain ⟨ko, hko, eo⟩ : ∃ ko, Is K H1 (oV o) ko ∧ (decide (oV o = .non) || ko.isInt) = true := by
        cases o with
        | none => exact ⟨.non, .non, rfl⟩
        | some v => exact ⟨.int v, .int v, rfl⟩
      refine ⟨_, ko, rfl, hko, _, rfl, ?_⟩
      rw [eo, if_neg (by decide)]
      refine ixT (SqT.of e1) rfl ⟨_, k, rfl, h.same s1, _, rfl, ?_⟩
      rw [hk, decide_eq_false hn, if_pos (by decide)]
      exact no H1 s1 rfl
    | @row a r e hs _ =>
      obtain ⟨m, z, o, w⟩ := r
      have e' : H a = some (.tup [V.int m, V.str z, oV o, oV w]) := e
      refine isi "tuple" (.tup e') ⟨_, rfl, ?_⟩
      rw [if_neg (show ¬ (Kn.tup a [V.int m, V.str z, oV o, oV w]).isT "tuple" = false from fun z => by cases z)]
      refine ⟨a, rfl, _, .inr (SqT.of e'), rfl, _, rfl, ?_⟩
      rw [if_neg (by simp)]
      refine ixT (SqT.of e') rfl ⟨_, .int m, rfl, .int m, _, rfl, ?_⟩
      rw [isInt_eq, if_neg (show ¬ (Kn.int m).isInt = false from fun z => by cases z)]
      refine ixT (SqT.of e') rfl ⟨_, rfl, ?_⟩
      by_cases h1 : m ≤ least
      · rw [if_pos h1]
        exact no H r0 (by unfold isChg; simp; omega)
      rw [if_neg h1]
      refine ixT (SqT.of e') rfl ⟨_, .str z, rfl, .str z, (show z.length ≤ 1000000 by have : z.length ≤ 1000 := hs; omega), fun H1 s1 => ⟨_, rfl, ?_⟩⟩
      have e1 := s1 _ _ e'
      by_cases hz : isKeyL z.cps.toList = true
      · rw [show (Kn.str z).isKey = true from hz, if_neg (by decide)]
        have am : ∀ o : Option Int, ∃ ko, Is K H1 (oV o) ko ∧ (decide (oV o = .non) || ko.isInt) = true := fun o => by
          cases o with
          | none => exact ⟨.non, .non, rfl⟩
          | some v => exact ⟨.int v, .int v, rfl⟩
        obtain ⟨ko, hko, eo⟩ := am o
        obtain ⟨kw, hkw, ew⟩ := am w
        refine ixT (SqT.of e1) rfl ⟨_, ko, rfl, hko, _, rfl, ?_⟩
        rw [eo, if_neg (by decide)]
        refine ixT (SqT.of e1) rfl ⟨_, kw, rfl, hkw, _, rfl, ?_⟩
        rw [ew, if_neg (by decide)]
        have qq := q H1 s1
        have ev : isChg least (some (m, z, o, w)) = (o.isSome || w.isSome) := by
          unfold isChg
          simp [hz]
          omega
        rw [ev] at qq
        refine ixT (SqT.of e1) rfl ?_
        cases o with
        | none =>
          rw [if_neg (by simp [oV])]
          refine ixT (SqT.of e1) rfl ?_
          cases w with
          | none => exact qq
          | some v => exact qq
        | some v =>
          rw [if_pos (by simp [oV])]
          exact qq
      · have hz' : isKeyL z.cps.toList = false := by simpa using hz
        rw [show (Kn.str z).isKey = false from hz', if_pos rfl]
        exact no H1 s1 (by unfold isChg; simp [hz'])

def sp_are_changes (K : Frag) : Sp := fun vs H Q _ => ∃ (x : V) (c : Option (List (Option LRow))) (f : Int), vs = [x, .int f] ∧ ChsV K H x c ∧ ∀ H', Same H H' → Q (.bl (chsOkO f c)) H'
theorem sc_are_changes : FnScope ["value", "floor", "least", "change"] ["value", "floor"] (defScope s_are_changes) := ⟨rfl, rfl, rfl, by decide +kernel, rfl, by decide +kernel, by decide +kernel⟩
theorem ok_are_changes {P : Program} {w : World} {K : Frag} {mg : Str → Option Value} {base : Heap} (T : Txt K mg) : FnB P w K mg base 4 (glA "are_changes" K) (sp_are_changes K) := by
  refine okD (N := ["value", "floor", "least", "change"]) (ps := ["value", "floor"]) (k := 3) (d := g_are_changes) T.d_are_changes rfl sc_are_changes (fun vs H Q E h => ?_) (fun _ _ _ _ _ _ us hl => match us, hl with | [_, _], _ => rfl) (fun A outer s H vs Q E hr h => ?_)
  · obtain ⟨x, c, f, rfl, hx, q⟩ := h
    rfl
  · have hu := hr.hu
    obtain ⟨x, c, f, rfl, hx, q⟩ := h
    refine ⟨_, PSs.nox ((pss_cons (ps_if (pt_not (pt_val (pe_callB call_isi (by rfl) T.b_isinstance (by decide +kernel) (pa_cons (pv 0) (pa_cons (pe_bltn (v := .ty "tuple") (u := .type "tuple") (by rfl) T.b_tuple (by decide +kernel) rfl) pa_nil)))))
        (pss_one (ps_ret pe_bl))
        pss_nil)
      (pss_cons (ps_set (i := 2) sc_are_changes.nd rfl (Or.inl rfl) (pv 1))
      (pss_cons (ps_for PassesOwn.never rfl (pi_tup (pv 0)) (pg_name (i := 3) sc_are_changes.nd rfl (Or.inl rfl))
        (pss_cons (ps_if (pt_not (pt_val (pe_cF (ok_is_change (K := K) T) hr T.m_is_change passL (pa_cons (pv 3) (pa_cons (pv 2) pa_nil)))))
          (pss_one (ps_ret pe_bl))
          pss_nil)
        (pss_one (ps_set (i := 2) sc_are_changes.nd rfl (Or.inl rfl) (pe_ix ix_tup (pv 3) pe_int (fun _ _ => rfl))))))
      (pss_one (ps_ret pe_bl)))))), ?_⟩
    walk_at "nm"
    cases hx with
    | no h hk =>
      refine isi "tuple" h ⟨_, rfl, ?_⟩
      rw [hk, if_pos rfl]
      exact q H (Same.refl _)
    | @tup a us cs e hp few =>
      refine e.isi ⟨_, rfl, ?_⟩
      rw [if_neg (by decide)]
      refine ⟨_, rfl, a, rfl, ⟨_, e.sq⟩, for_tup (K := K) (a := a) (xs := us) (fun i σ' H' => ∃ l w, σ' = [some (.ref a), some (.int f), some (.int l), w] ∧ Same H H' ∧ chsOk f cs = chsOk l (cs.drop i)) ⟨f, _, rfl, Same.refl _, rfl⟩ (fun i σ' H' _ p => by obtain ⟨_, _, _, s, _⟩ := p; exact (e.same s).sq) ?_ ?_⟩
      · rintro i v σ' H' hv ⟨l, w, rfl, s1, ev⟩
        obtain ⟨c, hc, hcv⟩ := LiI.paired_get hp hv
        have hcv1 := hcv.same s1
        rw [drop_at hc] at ev
        walk_at "nm"
        refine ⟨v, c, l, rfl, hcv1, fun H1 s2 => ⟨_, rfl, ?_⟩⟩
        cases hi : isChg l c with
        | false =>
          rw [if_pos rfl]
          have qq := q H1 (s1.trans s2)
          have e0 : chsOkO f (some cs) = false := by
            show chsOk f cs = false
            rw [ev]
            unfold chsOk
            rw [hi]
            rfl
          rw [e0] at qq
          exact qq
        | true =>
          rw [if_neg (by decide)]
          obtain ⟨b, r, rfl, rfl, hb⟩ := isChg_row hcv1 hi
          refine ixT (i := 0) (SqT.of (s2 _ _ hb)) (v := .int r.1) rfl ?_
          refine ⟨r.1, _, ⟨rfl, rfl⟩, s1.trans s2, ?_⟩
          rw [ev]
          show (isChg l (some r) && _) = _
          rw [hi]
          rfl
      · rintro σ' H' ⟨l, w, rfl, s1, ev⟩
        have e0 : chsOkO f (some cs) = true := by
          show chsOk f cs = true
          rw [ev, hp.length, List.drop_length]
          rfl
        have qq := q H' s1
        rw [e0] at qq
        exact qq

def sp_are_rows (K : Frag) : Sp := fun vs H Q _ => ∃ (x : V) (c : Option (List (Option (Str × Int)))), vs = [x] ∧ RwsV K H x c ∧ ∀ H', Same H H' → Q (.bl (rwsOkO c)) H'
theorem sc_are_rows : FnScope ["value", "row"] ["value"] (defScope s_are_rows) := ⟨rfl, rfl, rfl, by decide +kernel, rfl, by decide +kernel, by decide +kernel⟩
theorem ok_are_rows {P : Program} {w : World} {K : Frag} {mg : Str → Option Value} {base : Heap} (T : Txt K mg) : FnB P w K mg base 2 (glA "are_rows" K) (sp_are_rows K) := by
  refine okD (N := ["value", "row"]) (ps := ["value"]) (k := 1) (d := g_are_rows) T.d_are_rows rfl sc_are_rows (fun vs H Q E h => ?_) (fun _ _ _ _ _ _ us hl => match us, hl with | [_], _ => rfl) (fun A outer s H vs Q E hr h => ?_)
  · obtain ⟨x, c, rfl, hx, q⟩ := h
    rfl
  · have hu := hr.hu
    obtain ⟨x, c, rfl, hx, q⟩ := h
    refine ⟨_, PSs.nox ((pss_cons (ps_if (pt_not (pt_val (pe_callB call_isi (by rfl) T.b_isinstance (by decide +kernel) (pa_cons (pv 0) (pa_cons (pe_bltn (v := .ty "tuple") (u := .type "tuple") (by rfl) T.b_tuple (by decide +kernel) rfl) pa_nil)))))
        (pss_one (ps_ret pe_bl))
        pss_nil)
      (pss_cons (ps_for PassesOwn.never rfl (pi_tup (pv 0)) (pg_name (i := 1) sc_are_rows.nd rfl (Or.inl rfl))
        (pss_one (ps_if (PW.pt (pw_or (pt_not (pt_val (pe_callB call_isi (by rfl) T.b_isinstance (by decide +kernel) (pa_cons (pv 1) (pa_cons (pe_bltn (v := .ty "tuple") (u := .type "tuple") (by rfl) T.b_tuple (by decide +kernel) rfl) pa_nil))))) (pw_or (pt_cmpR op_ne (pe_callB call_len_seq (by rfl) T.b_len (by decide +kernel) (pa_cons (pv 1) pa_nil)) pe_int (nomark _)) (pw_or (pt_not (pt_val (pe_cF (ok_is_key (K := K) T) hr T.m_is_key passL (pa_cons (pe_ix ix_tup (pv 1) pe_int (fun _ _ => rfl)) pa_nil)))) (pw_or1 (pt_not (pt_val (pe_cF (ok_is_integer (K := K) T) hr T.m_is_integer passL (pa_cons (pe_ix ix_tup (pv 1) pe_int (fun _ _ => rfl)) pa_nil)))))))))
          (pss_one (ps_ret pe_bl))
          pss_nil)))
      (pss_one (ps_ret (pe_cmpR op_eq (pe_callB call_lenD (by rfl) T.b_len (by decide +kernel) (pa_cons (pe_dc (own := [("row", 1)]) (g := gName 1) rfl sc_are_rows.nd (pi_tup (pv 0)) (blkOk_by (N := ["value", "row"]) (sc := defScope s_are_rows) (by decide +kernel)) (fun _ _ _ _ _ => pg_name (i := 1) sc_are_rows.nd rfl (Or.inl rfl)) (fun _ _ _ _ _ => pts_nil) (fun _ _ _ _ _ => (pe_ix (ix_tup : IxR _ (rIxT K)) (pv 1) pe_int (fun _ _ => rfl))) (fun _ _ _ _ _ => pe_bl)) pa_nil)) (pe_callB call_len_seq (by rfl) T.b_len (by decide +kernel) (pa_cons (pv 0) pa_nil)) (nomark _))))))), ?_⟩
    walk_at "nm"
    cases hx with
    | no h hk =>
      refine isi "tuple" h ⟨_, rfl, ?_⟩
      rw [hk, if_pos rfl]
      exact q H (Same.refl _)
    | @tup a us cs e hp few =>
      refine e.isi ⟨_, rfl, ?_⟩
      rw [if_neg (by decide)]
      have bad : ∀ (i : Nat) (c : Option (Str × Int)), cs[i]? = some c → rowOk c = false → rwsOkO (some cs) = false := fun i c hc hr => by
        show (cs.all rowOk && _) = false
        rw [show cs.all rowOk = false from List.all_eq_false.mpr ⟨c, List.mem_of_getElem? hc, by rw [hr]; decide⟩]
        rfl
      refine ⟨_, rfl, a, rfl, ⟨_, e.sq⟩, for_tup (K := K) (a := a) (xs := us) (fun i σ' H' => ∃ w, σ' = [some (.ref a), w] ∧ Same H H' ∧ ∀ c ∈ cs.take i, rowOk c = true) ⟨_, rfl, Same.refl _, fun c hc => by rw [List.take_zero] at hc; cases hc⟩ (fun i σ' H' _ p => by obtain ⟨_, _, s, _⟩ := p; exact (e.same s).sq) ?_ ?_⟩
      · rintro i v σ' H' hv ⟨w, rfl, s1, ok⟩
        obtain ⟨c, hc, hcv⟩ := LiI.paired_get hp hv
        have hcv1 := hcv.same s1
        have nx : rowOk c = true → ∀ c' ∈ cs.take (i + 1), rowOk c' = true := fun h c' h' => by
          rw [List.take_add_one, hc] at h'
          rcases List.mem_append.mp h' with h' | h'
          · exact ok c' h'
          · cases h' with
            | head => exact h
            | tail _ h' => cases h'
        walk_at "nm"
        cases hcv1 with
        | no h hk =>
          refine isi "tuple" h ⟨_, rfl, ?_⟩
          rw [hk, if_pos rfl]
          have qq := q H' s1
          rw [bad i _ hc rfl] at qq
          exact qq
        | @val b z x k h1 hz h hk =>
          refine isi "tuple" (.tup h1) ⟨_, rfl, ?_⟩
          rw [if_neg (show ¬ (Kn.tup b _).isT "tuple" = false from fun z => by cases z)]
          refine ⟨b, rfl, _, .inr (SqT.of h1), neI ⟨_, rfl, ?_⟩⟩
          rw [if_neg (by simp)]
          refine ixT (i := 0) (SqT.of h1) (v := .str z) rfl ⟨_, .str z, rfl, .str z, key_small hz, fun H1 s2 => ⟨_, rfl, ?_⟩⟩
          rw [show (Kn.str z).isKey = true from hz, if_neg (by decide)]
          refine ixT (i := 1) (SqT.of (s2 _ _ h1)) (v := x) rfl ⟨_, k, rfl, h.same s2, _, rfl, ?_⟩
          rw [isInt_eq, hk, if_pos rfl]
          have qq := q H1 (s1.trans s2)
          rw [bad i _ hc rfl] at qq
          exact qq
        | @row b z n h1 hs =>
          refine isi "tuple" (.tup h1) ⟨_, rfl, ?_⟩
          rw [if_neg (show ¬ (Kn.tup b _).isT "tuple" = false from fun z => by cases z)]
          refine ⟨b, rfl, _, .inr (SqT.of h1), neI ⟨_, rfl, ?_⟩⟩
          rw [if_neg (by simp)]
          refine ixT (i := 0) (SqT.of h1) (v := .str z) rfl ⟨_, .str z, rfl, .str z, (show z.length ≤ 1000000 by omega), fun H1 s2 => ⟨_, rfl, ?_⟩⟩
          by_cases hz : isKeyL z.cps.toList = true
          · rw [show (Kn.str z).isKey = true from hz, if_neg (by decide)]
            refine ixT (i := 1) (SqT.of (s2 _ _ h1)) (v := .int n) rfl ⟨_, .int n, rfl, .int n, _, rfl, ?_⟩
            rw [isInt_eq, if_neg (show ¬ (Kn.int n).isInt = false from fun z => by cases z)]
            exact ⟨s1.trans s2, nx hz⟩
          · have hz' : isKeyL z.cps.toList = false := by simpa using hz
            rw [show (Kn.str z).isKey = false from hz', if_pos rfl]
            have qq := q H1 (s1.trans s2)
            rw [bad i _ hc hz'] at qq
            exact qq
      · rintro σ' H' ⟨w, rfl, s1, ok⟩
        rw [hp.length, List.take_length] at ok
        walk_at "nm"
        have lu := hp.length
        have e1 := e.same s1
        refine ⟨_, rfl, a, rfl, ⟨_, e1.sq⟩, fun D hD => dc_tup (K := K) (a := a) (xs := us) (fun i H2 => Same H' H2 ∧ H2 D = some (.dK (keysD (cs.take i))) ∧ (keysD (cs.take i)).length ≤ i) ⟨Same.upd (Same.refl _) hD, upd_same, Nat.le_refl _⟩ (fun i H2 _ p => (e1.same p.1).sq) ?_ ?_⟩
        · rintro i x H2 hx ⟨s2, hD2, l2⟩
          obtain ⟨c, hc, hcv⟩ := LiI.paired_get hp hx
          obtain ⟨b, z, n, rfl, rfl, hb⟩ := rowOk_row ((hcv.same s1).same s2) (ok c (List.mem_of_getElem? hc))
          have li := (List.getElem?_eq_some_iff.mp hx).1
          refine ⟨rfl, ?_⟩
          dsimp only [tYes]
          rw [if_pos rfl]
          refine ⟨_, rfl, ?_⟩
          dsimp only [tC]
          refine ixT (i := 0) (SqT.of hb) (v := .str z) rfl ?_
          refine ⟨_, .inr z, rfl, hD2, by rw [sizeLine_eq]; omega, ?_⟩
          have ll := length_putK (keysD (cs.take i)) (.inr z) (.bl true)
          refine ⟨same_own hD s2, ?_, ?_⟩
          · rw [upd_same, keysD_succ hc]
            rfl
          · rw [keysD_succ hc]
            show (putK (keysD (cs.take i)) (.inr z) (.bl true)).length ≤ i + 1
            omega
        · rintro H2 ⟨s2, hD2, l2⟩
          rw [lu, List.take_length] at hD2
          refine ⟨D, rfl, _, hD2, _, .inr (e1.same s2).sq, ?_⟩
          have qq := q H2 (s1.trans s2)
          have e0 : rwsOkO (some cs) = decide ((keysD cs).length = cs.length) := by
            show (cs.all rowOk && _) = _
            rw [List.all_eq_true.mpr ok, Bool.true_and]
          rw [e0] at qq
          rw [lu]
          refine eqIs ?_
          rw [show decide (((keysD cs).length : Int) = (cs.length : Int)) = decide ((keysD cs).length = cs.length) from decide_eq_decide.mpr ⟨by omega, by omega⟩]
          exact qq

/-! entries -/
/-- what is_own asks of a tuple of seven -/
abbrev OwD := Addr × Int × List (Option (Str × Int)) × List (Option LRow)
def ownD (ar : Addr) (f : Int) (rc : Option (List (Option (Str × Int)))) (cc : Option (List (Option LRow))) : Option OwD := if rwsOkO rc && chsOkO f cc then some (ar, f, rc.getD [], cc.getD []) else none
theorem ownD_some (ar : Addr) (f : Int) (rc : Option (List (Option (Str × Int)))) (cc : Option (List (Option LRow))) : (ownD ar f rc cc).isSome = (rwsOkO rc && chsOkO f cc) := by
  unfold ownD
  split
  · rename_i h
    rw [h]
    rfl
  · rename_i h
    rw [show (rwsOkO rc && chsOkO f cc) = false by simpa using h]
    rfl
inductive OwnV (K : Frag) (H : Hp) : V → Option OwD → Prop
  | len {a : Addr} {l : List V} (e : H a = some (.tup l)) (hl : l.length ≠ 7) (hm : l.length ≤ 1000) : OwnV K H (.ref a) none
  | arc {a : Addr} {s m n u v r c : V} {k : Kn} (e : H a = some (.tup [s, m, n, u, v, r, c])) (h : Is K H u k) (hk : k.isC (ga K "Arc") = false) (hd : ∀ a D, k ≠ .ins a D) : OwnV K H (.ref a) none
  | floor {a ar dx : Addr} {fs : List (Str × V)} {s m n v r c : V} {k : Kn} (e : H a = some (.tup [s, m, n, .ref ar, v, r, c])) (ha : H ar = some (.ins (ga K "Arc") dx fs)) (h : Is K H v k) (hk : k.least 0 = false) : OwnV K H (.ref a) none
  | own {a ar dx : Addr} {fs : List (Str × V)} {s m n r c : V} {f : Int} {rc : Option (List (Option (Str × Int)))} {cc : Option (List (Option LRow))} (e : H a = some (.tup [s, m, n, .ref ar, .int f, r, c])) (ha : H ar = some (.ins (ga K "Arc") dx fs)) (f0 : 0 ≤ f) (hr : RwsV K H r rc) (hc : ChsV K H c cc) (hf : rwsOkO rc = true → chsOkO f cc = true → ∃ b us, r = .ref b ∧ FzT H b us) : OwnV K H (.ref a) (ownD ar f rc cc)
theorem OwnV.same {K : Frag} {H H' : Hp} {v : V} {c : Option OwD} (h : OwnV K H v c) (s : Same H H') : OwnV K H' v c := by
  cases h with
  | len e hl hm => exact .len (s _ _ e) hl hm
  | arc e h hk hd => exact .arc (s _ _ e) (h.same s) hk hd
  | floor e ha h hk => exact .floor (s _ _ e) (s _ _ ha) (h.same s) hk
  | own e ha f0 hr hc hf => exact .own (s _ _ e) (s _ _ ha) f0 (hr.same s) (hc.same s) fun h1 h2 => let ⟨b, us, h3, h4⟩ := hf h1 h2; ⟨b, us, h3, h4.same s⟩
/-- an entry that counts -/
inductive En where
  | own (m n : Int) (d : OwD)
  | chg (m n : Int) (z : Str) (o w : Option Int)
  | drop (m n : Int)
inductive EnV (K : Frag) (H : Hp) : V → Option En → Prop
  | no {x : V} {k : Kn} (h : Is K H x k) (hk : k.isT "tuple" = false) : EnV K H x none
  | short {a : Addr} {l : List V} (e : H a = some (.tup l)) (hl : l.length < 3) : EnV K H (.ref a) none
  | nostr {a : Addr} {u v w : V} {l : List V} {k : Kn} (e : H a = some (.tup (u :: v :: w :: l))) (hm : l.length ≤ 1000) (h : Is K H u k) (hk : k.isT "str" = false) : EnV K H (.ref a) none
  | mom {a : Addr} {z : Str} {v w : V} {l : List V} {k : Kn} (e : H a = some (.tup (.str z :: v :: w :: l))) (hm : l.length ≤ 1000) (h : Is K H v k) (hk : k.least 0 = false) : EnV K H (.ref a) none
  | num {a : Addr} {z : Str} {m : Int} {w : V} {l : List V} {k : Kn} (e : H a = some (.tup (.str z :: .int m :: w :: l))) (hm : l.length ≤ 1000) (m0 : 0 ≤ m) (h : Is K H w k) (hk : k.least 1 = false) : EnV K H (.ref a) none
  | word {a : Addr} {z : Str} {m n : Int} {l : List V} (e : H a = some (.tup (.str z :: .int m :: .int n :: l))) (hm : l.length ≤ 1000) (m0 : 0 ≤ m) (n1 : 1 ≤ n) (h1 : z ≠ "own") (h2 : z ≠ "change") (h3 : z ≠ "drop") : EnV K H (.ref a) none
  | own {a : Addr} {m n : Int} {l : List V} {b : Option OwD} (e : H a = some (.tup (.str "own" :: .int m :: .int n :: l))) (hm : l.length ≤ 1000) (m0 : 0 ≤ m) (n1 : 1 ≤ n) (h : OwnV K H (.ref a) b) : EnV K H (.ref a) (b.map (En.own m n))
  | chgLen {a : Addr} {m n : Int} {l : List V} (e : H a = some (.tup (.str "change" :: .int m :: .int n :: l))) (hm : l.length ≤ 1000) (m0 : 0 ≤ m) (n1 : 1 ≤ n) (hl : l.length ≠ 3) : EnV K H (.ref a) none
  | chg {a : Addr} {m n : Int} {z : Str} {o w : Option Int} (e : H a = some (.tup [.str "change", .int m, .int n, .str z, oV o, oV w])) (m0 : 0 ≤ m) (n1 : 1 ≤ n) (hs : z.length ≤ 1000) (ho : PyData.strOk z = true) : EnV K H (.ref a) (if isChg (-1) (some (m, z, o, w)) then some (.chg m n z o w) else none)
  | chgOdd {a : Addr} {m n : Int} {z : Str} {o : Option Int} {x : V} {k : Kn} (e : H a = some (.tup [.str "change", .int m, .int n, .str z, oV o, x])) (m0 : 0 ≤ m) (n1 : 1 ≤ n) (hz : isKeyL z.cps.toList = true) (h : Is K H x k) (hn : x ≠ .non) (hk : k.isInt = false) : EnV K H (.ref a) none
  | dropLen {a : Addr} {m n : Int} {l : List V} (e : H a = some (.tup (.str "drop" :: .int m :: .int n :: l))) (hm : l.length ≤ 1000) (m0 : 0 ≤ m) (n1 : 1 ≤ n) (hl : l ≠ []) : EnV K H (.ref a) none
  | drop {a : Addr} {m n : Int} (e : H a = some (.tup [.str "drop", .int m, .int n])) (m0 : 0 ≤ m) (n1 : 1 ≤ n) : EnV K H (.ref a) (some (.drop m n))
theorem EnV.same {K : Frag} {H H' : Hp} {v : V} {c : Option En} (h : EnV K H v c) (s : Same H H') : EnV K H' v c := by
  cases h with
  | no h hk => exact .no (h.same s) hk
  | short e hl => exact .short (s _ _ e) hl
  | nostr e hm h hk => exact .nostr (s _ _ e) hm (h.same s) hk
  | mom e hm h hk => exact .mom (s _ _ e) hm (h.same s) hk
  | num e hm m0 h hk => exact .num (s _ _ e) hm m0 (h.same s) hk
  | word e hm m0 n1 h1 h2 h3 => exact .word (s _ _ e) hm m0 n1 h1 h2 h3
  | own e hm m0 n1 h => exact .own (s _ _ e) hm m0 n1 (h.same s)
  | chgLen e hm m0 n1 hl => exact .chgLen (s _ _ e) hm m0 n1 hl
  | chg e m0 n1 hs ho => exact .chg (s _ _ e) m0 n1 hs ho
  | chgOdd e m0 n1 hz h hn hk => exact .chgOdd (s _ _ e) m0 n1 hz (h.same s) hn hk
  | dropLen e hm m0 n1 hl => exact .dropLen (s _ _ e) hm m0 n1 hl
  | drop e m0 n1 => exact .drop (s _ _ e) m0 n1
theorem eqNo {x y : Str} {H : Hp} {Q : VK} (h : x ≠ y) (q : Q (.bl false) H) : rEq (.str x) (.str y) H Q := by
  refine ⟨rfl, ?_⟩
  rw [show decide (V.str x = V.str y) = false from decide_eq_false fun z => h (by cases z; rfl)]
  exact q
theorem eqYes {x : Str} {H : Hp} {Q : VK} (q : Q (.bl true) H) : rEq (.str x) (.str x) H Q := by
  refine ⟨rfl, ?_⟩
  rw [show decide (V.str x = V.str x) = true from decide_eq_true rfl]
  exact q
/-- an entry of the kind own that counts -/
theorem en_own {K : Frag} {H : Hp} {v : V} {m n : Int} {d : OwD} (h : EnV K H v (some (.own m n d))) : ∃ (a ar dx ra ca : Addr) (fs : List (Str × V)) (f : Int) (rus cus : List V) (rws : List (Option (Str × Int))) (chs : List (Option LRow)), v = .ref a ∧ d = (ar, f, rws, chs) ∧ H a = some (.tup [.str "own", .int m, .int n, .ref ar, .int f, .ref ra, .ref ca]) ∧ 0 ≤ m ∧ 1 ≤ n ∧ 0 ≤ f ∧
    H ar = some (.ins (ga K "Arc") dx fs) ∧ FzT H ra rus ∧ Paired (RwV K H) rus rws ∧ rus.length ≤ 1000 ∧ rwsOkO (some rws) = true ∧ TpV H ca cus ∧ Paired (ChV K H) cus chs ∧ cus.length ≤ 1000 ∧ chsOk f chs = true := by
  generalize hc : some (En.own m n d) = e at h
  cases h with
  | @own a m' n' l b e hm m0 n1 ho =>
    cases b with
    | none => cases hc
    | some d' =>
      cases hc
      generalize hd : some d = d2 at ho
      cases ho with
      | len _ _ _ => cases hd
      | arc _ _ _ _ => cases hd
      | floor _ _ _ _ => cases hd
      | @own _ ar dx fs s m2 n2 r c f rc cc e2 ha f0 hr hcc hf =>
        rw [e] at e2
        cases e2
        unfold ownD at hd
        split at hd
        · rename_i hok
          cases hd
          have hok := Bool.and_eq_true_iff.mp hok
          obtain ⟨ra, rus, rfl, fz⟩ := hf hok.1 hok.2
          cases hcc with
          | no _ _ => cases hok.2
          | @tup ca cus chs tc pc fc =>
            cases hr with
            | no _ _ => cases hok.1
            | @tup _ rus' rws tr pr fr =>
              have eu : rus' = rus := by
                obtain ⟨o, _, _, e3⟩ := fz
                rcases tr with e4 | ⟨o', _, _, e4⟩
                · rw [e3] at e4
                  cases e4
                · rw [e3] at e4
                  cases e4
                  rfl
              subst eu
              exact ⟨a, ar, dx, ra, ca, fs, f, rus', cus, rws, chs, rfl, rfl, e, m0, n1, f0, ha, fz, pr, fr, hok.1, tc, pc, fc, hok.2⟩
        · cases hd
  | no _ _ => cases hc
  | short _ _ => cases hc
  | nostr _ _ _ _ => cases hc
  | mom _ _ _ _ => cases hc
  | num _ _ _ _ _ => cases hc
  | word _ _ _ _ _ _ _ => cases hc
  | chgLen _ _ _ _ _ => cases hc
  | chg _ _ _ _ _ =>
    split at hc <;> cases hc
  | chgOdd _ _ _ _ _ _ _ => cases hc
  | dropLen _ _ _ _ _ => cases hc
  | drop _ _ _ => cases hc
theorem en_chg {K : Frag} {H : Hp} {v : V} {m n : Int} {z : Str} {o w : Option Int} (h : EnV K H v (some (.chg m n z o w))) : ∃ a, v = .ref a ∧ H a = some (.tup [.str "change", .int m, .int n, .str z, oV o, oV w]) ∧ 0 ≤ m ∧ 1 ≤ n ∧ z.length ≤ 1000 ∧ PyData.strOk z = true ∧ isChg (-1) (some (m, z, o, w)) = true := by
  generalize hc : some (En.chg m n z o w) = e at h
  cases h with
  | chg e m0 n1 hs ho =>
    split at hc
    · rename_i hi
      cases hc
      exact ⟨_, rfl, e, m0, n1, hs, ho, hi⟩
    · cases hc
  | @own a m' n' l b e hm m0 n1 ho => cases b <;> cases hc
  | no _ _ => cases hc
  | short _ _ => cases hc
  | nostr _ _ _ _ => cases hc
  | mom _ _ _ _ => cases hc
  | num _ _ _ _ _ => cases hc
  | word _ _ _ _ _ _ _ => cases hc
  | chgLen _ _ _ _ _ => cases hc
  | chgOdd _ _ _ _ _ _ _ => cases hc
  | dropLen _ _ _ _ _ => cases hc
  | drop _ _ _ => cases hc
theorem en_drop {K : Frag} {H : Hp} {v : V} {m n : Int} (h : EnV K H v (some (.drop m n))) : ∃ a, v = .ref a ∧ H a = some (.tup [.str "drop", .int m, .int n]) ∧ 0 ≤ m ∧ 1 ≤ n := by
  generalize hc : some (En.drop m n) = e at h
  cases h with
  | drop e m0 n1 =>
    cases hc
    exact ⟨_, rfl, e, m0, n1⟩
  | chg e m0 n1 hs ho => split at hc <;> cases hc
  | @own a m' n' l b e hm m0 n1 ho => cases b <;> cases hc
  | no _ _ => cases hc
  | short _ _ => cases hc
  | nostr _ _ _ _ => cases hc
  | mom _ _ _ _ => cases hc
  | num _ _ _ _ _ => cases hc
  | word _ _ _ _ _ _ _ => cases hc
  | chgLen _ _ _ _ _ => cases hc
  | chgOdd _ _ _ _ _ _ _ => cases hc
  | dropLen _ _ _ _ _ => cases hc

def sp_is_own (K : Frag) : Sp := fun vs H Q _ => ∃ (x : V) (c : Option OwD), vs = [x] ∧ OwnV K H x c ∧ ∀ H', Same H H' → Q (.bl c.isSome) H'
theorem sc_is_own : FnScope ["entry"] ["entry"] (defScope s_is_own) := ⟨rfl, rfl, rfl, by decide +kernel, rfl, by decide +kernel, by decide +kernel⟩
theorem ok_is_own {P : Program} {w : World} {K : Frag} {mg : Str → Option Value} {base : Heap} (T : Txt K mg) : FnB P w K mg base 5 (glA "is_own" K) (sp_is_own K) := by
  refine okD (N := ["entry"]) (ps := ["entry"]) (k := 4) (d := g_is_own) T.d_is_own rfl sc_is_own (fun vs H Q E h => ?_) (fun _ _ _ _ _ _ us hl => match us, hl with | [_], _ => rfl) (fun A outer s H vs Q E hr h => ?_)
  · obtain ⟨x, c, rfl, hx, q⟩ := h
    rfl
  · have hu := hr.hu
    obtain ⟨x, c, rfl, hx, q⟩ := h
    refine ⟨_, PSs.nox ((pss_cons (ps_if (PW.pt (pw_or (pt_cmpR op_ne (pe_callB call_len_seq (by rfl) T.b_len (by decide +kernel) (pa_cons (pv 0) pa_nil)) pe_int (nomark _)) (pw_or (pt_not (pt_val (pe_callB call_isi (by rfl) T.b_isinstance (by decide +kernel) (pa_cons (pe_ix ix_tup (pv 0) pe_int (fun _ _ => rfl)) (pa_cons (pe_gc (v := .ref (ga K "Arc")) (by rfl) ⟨_, T.m_Arc, rfl⟩) pa_nil))))) (pw_or (pt_not (pt_val (pe_cF (ok_is_integer (K := K) T) hr T.m_is_integer passL (pa_cons (pe_ix ix_tup (pv 0) pe_int (fun _ _ => rfl)) pa_nil)))) (pw_or1 (pt_cmpR op_lt (pe_ix ix_tup (pv 0) pe_int (fun _ _ => rfl)) pe_int (nomark _)))))))
        (pss_one (ps_ret pe_bl))
        pss_nil)
      (pss_one (ps_ret (pe_and (pe_cF (ok_are_rows (K := K) T) hr T.m_are_rows passL (pa_cons (pe_ix ix_tup (pv 0) pe_int (fun _ _ => rfl)) pa_nil)) (pe_one (pe_cF (ok_are_changes (K := K) T) hr T.m_are_changes passL (pa_cons (pe_ix ix_tup (pv 0) pe_int (fun _ _ => rfl)) (pa_cons (pe_ix ix_tup (pv 0) pe_int (fun _ _ => rfl)) pa_nil))))))))), ?_⟩
    walk_at "nm"
    have q0 := q H (Same.refl _)
    have arcT : ∀ (ar dx : Addr) (fs : List (Str × V)) (R : VK), H ar = some (.ins (ga K "Arc") dx fs) → R (.bl true) H → rIsi K [.ref ar, .ref (ga K "Arc")] H R := fun ar dx fs R h k => by
      refine isiC (.ins h T.o_Arc) T.q_Arc (fun a D e hn => by cases e; exact absurd rfl hn) ?_
      rw [show (Kn.ins ar (ga K "Arc")).isC (ga K "Arc") = true from decide_eq_true rfl]
      exact k
    cases hx with
    | @len a l e hl hm =>
      refine ⟨a, rfl, l, .inr (SqT.of e), neI ⟨_, rfl, ?_⟩⟩
      rw [if_pos (by simp; omega)]
      exact q0
    | @arc a s m n u v r c k e h hk hd =>
      refine ⟨a, rfl, _, .inr (SqT.of e), neI ⟨_, rfl, ?_⟩⟩
      rw [if_neg (by simp)]
      refine ixT (i := 3) (SqT.of e) (v := u) rfl (isiC h T.q_Arc (fun a D e' hn => absurd e' (hd a D)) ⟨_, rfl, ?_⟩)
      rw [hk, if_pos rfl]
      exact q0
    | @floor a ar dx fs s m n v r c k e ha h hk =>
      refine ⟨a, rfl, _, .inr (SqT.of e), neI ⟨_, rfl, ?_⟩⟩
      rw [if_neg (by simp)]
      refine ixT (i := 3) (SqT.of e) (v := .ref ar) rfl (arcT ar dx fs _ ha ⟨_, rfl, ?_⟩)
      rw [if_neg (by decide)]
      refine ixT (i := 4) (SqT.of e) (v := v) rfl ⟨_, k, rfl, h, _, rfl, ?_⟩
      rw [isInt_eq]
      cases h with
      | int i =>
        rw [if_neg (show ¬ (Kn.int i).isInt = false from fun z => by cases z)]
        refine ixT (i := 4) (SqT.of e) (v := .int i) rfl ⟨_, rfl, ?_⟩
        have i0 : ¬ (0 ≤ i) := of_decide_eq_false hk
        rw [if_pos (by omega)]
        exact q0
      | bl b => exact q0
      | str z => exact q0
      | non => exact q0
      | lst h => exact q0
      | tup h => exact q0
      | dct h => exact q0
      | ins h c => exact q0
    | @own a ar dx fs s m n r c f rc cc e ha f0 hr' hc _ =>
      refine ⟨a, rfl, _, .inr (SqT.of e), neI ⟨_, rfl, ?_⟩⟩
      rw [if_neg (by simp)]
      refine ixT (i := 3) (SqT.of e) (v := .ref ar) rfl (arcT ar dx fs _ ha ⟨_, rfl, ?_⟩)
      rw [if_neg (by decide)]
      refine ixT (i := 4) (SqT.of e) (v := .int f) rfl ⟨_, .int f, rfl, .int f, _, rfl, ?_⟩
      rw [isInt_eq, if_neg (show ¬ (Kn.int f).isInt = false from fun z => by cases z)]
      refine ixT (i := 4) (SqT.of e) (v := .int f) rfl ⟨_, rfl, ?_⟩
      rw [if_neg (by omega)]
      refine ixT (i := 5) (SqT.of e) (v := r) rfl ⟨r, rc, rfl, hr', fun H1 s1 => ⟨_, rfl, ?_⟩⟩
      rw [ownD_some] at q
      cases hq : rwsOkO rc with
      | false =>
        rw [if_neg (by decide)]
        have qq := q H1 s1
        rw [hq] at qq
        exact qq
      | true =>
        rw [if_pos rfl]
        rw [hq] at q
        refine ixT (i := 6) (SqT.of (s1 _ _ e)) (v := c) rfl (ixT (i := 4) (SqT.of (s1 _ _ e)) (v := .int f) rfl ?_)
        exact ⟨c, cc, f, rfl, hc.same s1, fun H2 s2 => q H2 (s1.trans s2)⟩

def sp_is_entry (K : Frag) : Sp := fun vs H Q _ => ∃ (x : V) (c : Option En), vs = [x] ∧ EnV K H x c ∧ ∀ H', Same H H' → Q (.bl c.isSome) H'
theorem sc_is_entry : FnScope ["value"] ["value"] (defScope s_is_entry) := ⟨rfl, rfl, rfl, by decide +kernel, rfl, by decide +kernel, by decide +kernel⟩
theorem ok_is_entry {P : Program} {w : World} {K : Frag} {mg : Str → Option Value} {base : Heap} (T : Txt K mg) : FnB P w K mg base 6 (glA "is_entry" K) (sp_is_entry K) := by
  refine okD (N := ["value"]) (ps := ["value"]) (k := 5) (d := g_is_entry) T.d_is_entry rfl sc_is_entry (fun vs H Q E h => ?_) (fun _ _ _ _ _ _ us hl => match us, hl with | [_], _ => rfl) (fun A outer s H vs Q E hr h => ?_)
  · obtain ⟨x, c, rfl, hx, q⟩ := h
    rfl
  · have hu := hr.hu
    obtain ⟨x, c, rfl, hx, q⟩ := h
    refine ⟨_, PSs.nox ((pss_cons (ps_if (PW.pt (pw_or (pt_not (pt_val (pe_callB call_isi (by rfl) T.b_isinstance (by decide +kernel) (pa_cons (pv 0) (pa_cons (pe_bltn (v := .ty "tuple") (u := .type "tuple") (by rfl) T.b_tuple (by decide +kernel) rfl) pa_nil))))) (pw_or (pt_cmpR op_lt (pe_callB call_len_seq (by rfl) T.b_len (by decide +kernel) (pa_cons (pv 0) pa_nil)) pe_int (nomark _)) (pw_or1 (pt_not (pt_val (pe_callB call_isi (by rfl) T.b_isinstance (by decide +kernel) (pa_cons (pe_ix ix_tup (pv 0) pe_int (fun _ _ => rfl)) (pa_cons (pe_bltn (v := .ty "str") (u := .type "str") (by rfl) T.b_str (by decide +kernel) rfl) pa_nil)))))))))
        (pss_one (ps_ret pe_bl))
        pss_nil)
      (pss_cons (ps_if (PW.pt (pw_or (pt_not (pt_val (pe_cF (ok_is_integer (K := K) T) hr T.m_is_integer passL (pa_cons (pe_ix ix_tup (pv 0) pe_int (fun _ _ => rfl)) pa_nil)))) (pw_or (pt_cmpR op_lt (pe_ix ix_tup (pv 0) pe_int (fun _ _ => rfl)) pe_int (nomark _)) (pw_or (pt_not (pt_val (pe_cF (ok_is_integer (K := K) T) hr T.m_is_integer passL (pa_cons (pe_ix ix_tup (pv 0) pe_int (fun _ _ => rfl)) pa_nil)))) (pw_or1 (pt_cmpR op_lt (pe_ix ix_tup (pv 0) pe_int (fun _ _ => rfl)) pe_int (nomark _)))))))
        (pss_one (ps_ret pe_bl))
        pss_nil)
      (pss_cons (ps_if (pt_cmpR op_eq (pe_ix ix_tup (pv 0) pe_int (fun _ _ => rfl)) pe_str (nomark _))
        (pss_one (ps_ret (pe_cF (ok_is_own (K := K) T) hr T.m_is_own passL (pa_cons (pv 0) pa_nil))))
        pss_nil)
      (pss_cons (ps_if (pt_cmpR op_eq (pe_ix ix_tup (pv 0) pe_int (fun _ _ => rfl)) pe_str (nomark _))
        (pss_one (ps_ret (pe_and (pe_cmpR op_eq (pe_callB call_len_seq (by rfl) T.b_len (by decide +kernel) (pa_cons (pv 0) pa_nil)) pe_int (nomark _)) (pe_one (pe_cF (ok_is_change (K := K) T) hr T.m_is_change passL (pa_cons (pe_op op_catA (pe_slice sl_tupA (pv 0) (po_some pe_int) (po_some pe_int)) (pe_slice sl_tupA (pv 0) (po_some pe_int) po_none)) (pa_cons (pe_un un_neg pe_int) pa_nil)))))))
        pss_nil)
      (pss_one (ps_ret (pe_and (pe_cmpR op_eq (pe_ix ix_tup (pv 0) pe_int (fun _ _ => rfl)) pe_str (nomark _)) (pe_one (pe_cmpR op_eq (pe_callB call_len_seq (by rfl) T.b_len (by decide +kernel) (pa_cons (pv 0) pa_nil)) pe_int (nomark _))))))))))), ?_⟩
    walk_at "nm"
    have q0 := q H (Same.refl _)
    cases hx with
    | no h hk =>
      refine isi "tuple" h ⟨_, rfl, ?_⟩
      rw [hk, if_pos rfl]
      exact q0
    | @short a l e hl =>
      refine isi "tuple" (.tup e) ⟨_, rfl, ?_⟩
      rw [if_neg (show ¬ (Kn.tup a l).isT "tuple" = false from fun z => by cases z)]
      refine ⟨a, rfl, l, .inr (SqT.of e), ?_⟩
      rw [if_pos (by omega)]
      exact q0
    | @nostr a u v w l k e hm h hk =>
      refine isi "tuple" (.tup e) ⟨_, rfl, ?_⟩
      rw [if_neg (show ¬ (Kn.tup a _).isT "tuple" = false from fun z => by cases z)]
      refine ⟨a, rfl, _, .inr (SqT.of e), ?_⟩
      rw [if_neg (by simp; omega)]
      refine ixT (i := 0) (SqT.of e) (v := u) (atI_nat rfl) (isi "str" h ⟨_, rfl, ?_⟩)
      rw [hk, if_pos rfl]
      exact q0
    | @mom a z v w l k e hm h hk =>
      refine isi "tuple" (.tup e) ⟨_, rfl, ?_⟩
      rw [if_neg (show ¬ (Kn.tup a _).isT "tuple" = false from fun z => by cases z)]
      refine ⟨a, rfl, _, .inr (SqT.of e), ?_⟩
      rw [if_neg (by simp <;> omega)]
      refine ixT (i := 0) (SqT.of e) (v := .str z) (atI_nat rfl) (isi "str" (.str _) ⟨_, rfl, ?_⟩)
      rw [if_neg (show ¬ (Kn.str _).isT "str" = false from fun z => by cases z)]
      refine ixT (i := 1) (SqT.of e) (v := v) (atI_nat rfl) ⟨_, k, rfl, h, _, rfl, ?_⟩
      rw [isInt_eq]
      cases h with
      | int i =>
        rw [if_neg (show ¬ (Kn.int i).isInt = false from fun z => by cases z)]
        refine ixT (i := 1) (SqT.of e) (v := .int i) (atI_nat rfl) ⟨_, rfl, ?_⟩
        have i0 : ¬ (0 ≤ i) := of_decide_eq_false hk
        rw [if_pos (by omega)]
        exact q0
      | bl b => exact q0
      | str z => exact q0
      | non => exact q0
      | lst h => exact q0
      | tup h => exact q0
      | dct h => exact q0
      | ins h c => exact q0
    | @num a z m w l k e hm m0 h hk =>
      refine isi "tuple" (.tup e) ⟨_, rfl, ?_⟩
      rw [if_neg (show ¬ (Kn.tup a _).isT "tuple" = false from fun z => by cases z)]
      refine ⟨a, rfl, _, .inr (SqT.of e), ?_⟩
      rw [if_neg (by simp <;> omega)]
      refine ixT (i := 0) (SqT.of e) (v := .str z) (atI_nat rfl) (isi "str" (.str _) ⟨_, rfl, ?_⟩)
      rw [if_neg (show ¬ (Kn.str _).isT "str" = false from fun z => by cases z)]
      refine ixT (i := 1) (SqT.of e) (v := .int m) (atI_nat rfl) ⟨_, .int m, rfl, .int m, _, rfl, ?_⟩
      rw [isInt_eq, if_neg (show ¬ (Kn.int m).isInt = false from fun z => by cases z)]
      refine ixT (i := 1) (SqT.of e) (v := .int m) (atI_nat rfl) ⟨_, rfl, ?_⟩
      rw [if_neg (by omega)]
      refine ixT (i := 2) (SqT.of e) (v := w) (atI_nat rfl) ⟨_, k, rfl, h, _, rfl, ?_⟩
      rw [isInt_eq]
      cases h with
      | int i =>
        rw [if_neg (show ¬ (Kn.int i).isInt = false from fun z => by cases z)]
        refine ixT (i := 2) (SqT.of e) (v := .int i) (atI_nat rfl) ⟨_, rfl, ?_⟩
        have i0 : ¬ (1 ≤ i) := of_decide_eq_false hk
        rw [if_pos (by omega)]
        exact q0
      | bl b => exact q0
      | str z => exact q0
      | non => exact q0
      | lst h => exact q0
      | tup h => exact q0
      | dct h => exact q0
      | ins h c => exact q0
    | @word a z m n l e hm m0 n1 h1 h2 h3 =>
      refine isi "tuple" (.tup e) ⟨_, rfl, ?_⟩
      rw [if_neg (show ¬ (Kn.tup a _).isT "tuple" = false from fun z => by cases z)]
      refine ⟨a, rfl, _, .inr (SqT.of e), ?_⟩
      rw [if_neg (by simp <;> omega)]
      refine ixT (i := 0) (SqT.of e) (v := .str z) (atI_nat rfl) (isi "str" (.str _) ⟨_, rfl, ?_⟩)
      rw [if_neg (show ¬ (Kn.str _).isT "str" = false from fun z => by cases z)]
      refine ixT (i := 1) (SqT.of e) (v := .int m) (atI_nat rfl) ⟨_, .int m, rfl, .int m, _, rfl, ?_⟩
      rw [isInt_eq, if_neg (show ¬ (Kn.int m).isInt = false from fun z => by cases z)]
      refine ixT (i := 1) (SqT.of e) (v := .int m) (atI_nat rfl) ⟨_, rfl, ?_⟩
      rw [if_neg (by omega)]
      refine ixT (i := 2) (SqT.of e) (v := .int n) (atI_nat rfl) ⟨_, .int n, rfl, .int n, _, rfl, ?_⟩
      rw [isInt_eq, if_neg (show ¬ (Kn.int n).isInt = false from fun z => by cases z)]
      refine ixT (i := 2) (SqT.of e) (v := .int n) (atI_nat rfl) ⟨_, rfl, ?_⟩
      rw [if_neg (by omega)]
      refine ixT (i := 0) (SqT.of e) (v := .str z) (atI_nat rfl) (eqNo h1 ⟨_, rfl, ?_⟩)
      rw [if_neg (by decide)]
      refine ixT (i := 0) (SqT.of e) (v := .str z) (atI_nat rfl) (eqNo h2 ⟨_, rfl, ?_⟩)
      rw [if_neg (by decide)]
      refine ixT (i := 0) (SqT.of e) (v := .str z) (atI_nat rfl) (eqNo h3 ⟨_, rfl, ?_⟩)
      exact q0
    | @own a m n l b e hm m0 n1 h =>
      refine isi "tuple" (.tup e) ⟨_, rfl, ?_⟩
      rw [if_neg (show ¬ (Kn.tup a _).isT "tuple" = false from fun z => by cases z)]
      refine ⟨a, rfl, _, .inr (SqT.of e), ?_⟩
      rw [if_neg (by simp <;> omega)]
      refine ixT (i := 0) (SqT.of e) (v := .str "own") (atI_nat rfl) (isi "str" (.str _) ⟨_, rfl, ?_⟩)
      rw [if_neg (show ¬ (Kn.str _).isT "str" = false from fun z => by cases z)]
      refine ixT (i := 1) (SqT.of e) (v := .int m) (atI_nat rfl) ⟨_, .int m, rfl, .int m, _, rfl, ?_⟩
      rw [isInt_eq, if_neg (show ¬ (Kn.int m).isInt = false from fun z => by cases z)]
      refine ixT (i := 1) (SqT.of e) (v := .int m) (atI_nat rfl) ⟨_, rfl, ?_⟩
      rw [if_neg (by omega)]
      refine ixT (i := 2) (SqT.of e) (v := .int n) (atI_nat rfl) ⟨_, .int n, rfl, .int n, _, rfl, ?_⟩
      rw [isInt_eq, if_neg (show ¬ (Kn.int n).isInt = false from fun z => by cases z)]
      refine ixT (i := 2) (SqT.of e) (v := .int n) (atI_nat rfl) ⟨_, rfl, ?_⟩
      rw [if_neg (by omega)]
      refine ixT (i := 0) (SqT.of e) (v := .str "own") (atI_nat rfl) (eqYes ⟨_, rfl, ?_⟩)
      rw [if_pos rfl]
      refine ⟨.ref a, b, rfl, h, fun H' s => ?_⟩
      have qq := q H' s
      cases b <;> exact qq
    | @chgLen a m n l e hm m0 n1 hl =>
      refine isi "tuple" (.tup e) ⟨_, rfl, ?_⟩
      rw [if_neg (show ¬ (Kn.tup a _).isT "tuple" = false from fun z => by cases z)]
      refine ⟨a, rfl, _, .inr (SqT.of e), ?_⟩
      rw [if_neg (by simp <;> omega)]
      refine ixT (i := 0) (SqT.of e) (v := .str "change") (atI_nat rfl) (isi "str" (.str _) ⟨_, rfl, ?_⟩)
      rw [if_neg (show ¬ (Kn.str _).isT "str" = false from fun z => by cases z)]
      refine ixT (i := 1) (SqT.of e) (v := .int m) (atI_nat rfl) ⟨_, .int m, rfl, .int m, _, rfl, ?_⟩
      rw [isInt_eq, if_neg (show ¬ (Kn.int m).isInt = false from fun z => by cases z)]
      refine ixT (i := 1) (SqT.of e) (v := .int m) (atI_nat rfl) ⟨_, rfl, ?_⟩
      rw [if_neg (by omega)]
      refine ixT (i := 2) (SqT.of e) (v := .int n) (atI_nat rfl) ⟨_, .int n, rfl, .int n, _, rfl, ?_⟩
      rw [isInt_eq, if_neg (show ¬ (Kn.int n).isInt = false from fun z => by cases z)]
      refine ixT (i := 2) (SqT.of e) (v := .int n) (atI_nat rfl) ⟨_, rfl, ?_⟩
      rw [if_neg (by omega)]
      refine ixT (i := 0) (SqT.of e) (v := .str "change") (atI_nat rfl) (eqNo (by decide +kernel) ⟨_, rfl, ?_⟩)
      rw [if_neg (by decide)]
      refine ixT (i := 0) (SqT.of e) (v := .str "change") (atI_nat rfl) (eqYes ⟨_, rfl, ?_⟩)
      rw [if_pos rfl]
      refine ⟨a, rfl, _, .inr (SqT.of e), eqIs ⟨_, rfl, ?_⟩⟩
      rw [if_neg (by simp; omega)]
      exact q0
    | @chg a m n z o w e m0 n1 hs ho =>
      refine isi "tuple" (.tup e) ⟨_, rfl, ?_⟩
      rw [if_neg (show ¬ (Kn.tup a _).isT "tuple" = false from fun z => by cases z)]
      refine ⟨a, rfl, _, .inr (SqT.of e), ?_⟩
      rw [if_neg (by simp <;> omega)]
      refine ixT (i := 0) (SqT.of e) (v := .str "change") (atI_nat rfl) (isi "str" (.str _) ⟨_, rfl, ?_⟩)
      rw [if_neg (show ¬ (Kn.str _).isT "str" = false from fun z => by cases z)]
      refine ixT (i := 1) (SqT.of e) (v := .int m) (atI_nat rfl) ⟨_, .int m, rfl, .int m, _, rfl, ?_⟩
      rw [isInt_eq, if_neg (show ¬ (Kn.int m).isInt = false from fun z => by cases z)]
      refine ixT (i := 1) (SqT.of e) (v := .int m) (atI_nat rfl) ⟨_, rfl, ?_⟩
      rw [if_neg (by omega)]
      refine ixT (i := 2) (SqT.of e) (v := .int n) (atI_nat rfl) ⟨_, .int n, rfl, .int n, _, rfl, ?_⟩
      rw [isInt_eq, if_neg (show ¬ (Kn.int n).isInt = false from fun z => by cases z)]
      refine ixT (i := 2) (SqT.of e) (v := .int n) (atI_nat rfl) ⟨_, rfl, ?_⟩
      rw [if_neg (by omega)]
      refine ixT (i := 0) (SqT.of e) (v := .str "change") (atI_nat rfl) (eqNo (by decide +kernel) ⟨_, rfl, ?_⟩)
      rw [if_neg (by decide)]
      refine ixT (i := 0) (SqT.of e) (v := .str "change") (atI_nat rfl) (eqYes ⟨_, rfl, ?_⟩)
      rw [if_pos rfl]
      refine ⟨a, rfl, _, .inr (SqT.of e), eqIs ⟨_, rfl, ?_⟩⟩
      rw [if_pos (by simp)]
      refine ⟨a, _, rfl, SqT.of e, (fun hh => absurd hh.1 (by show ¬ (HT.sIx 6 0 (some 1) = 0); decide)), fun _ p1 m1 => ?_⟩
      generalize hg : upd H p1 _ = G1
      have s1 := sameOf m1 hg
      have f1 : G1 p1 = some (.tup [.int m]) := atOf hg
      clear hg
      refine ⟨a, _, rfl, SqT.of (s1 _ _ e), (fun hh => absurd hh.1 (by show ¬ (HT.sIx 6 0 (some 3) = 0); decide)), fun _ p2 m2 => ?_⟩
      generalize hg : upd G1 p2 _ = G2
      have s2 := sameOf m2 hg
      have f2 : G2 p2 = some (.tup [.str z, oV o, oV w]) := atOf hg
      clear hg
      refine ⟨p1, p2, _, _, rfl, rfl, SqT.of (s2 _ _ f1), SqT.of f2, by show 4 ≤ _; rw [sizeLine_eq]; decide, (fun z => by cases z), (fun _ z => by cases z), fun _ _ p3 m3 => ?_⟩
      generalize hg : upd G2 p3 _ = G3
      have s3 := sameOf m3 hg
      have f3 : G3 p3 = some (.tup [.int m, .str z, oV o, oV w]) := atOf hg
      clear hg
      refine ⟨_, rfl, ?_⟩
      refine ⟨.ref p3, some (m, z, o, w), -1, rfl, .row f3 hs ho, fun H' s => ?_⟩
      have qq := q H' (s1.trans (s2.trans (s3.trans s)))
      cases hi : isChg (-1) (some (m, z, o, w)) with
      | false =>
        rw [hi] at qq
        exact qq
      | true =>
        rw [hi] at qq
        exact qq
    | @chgOdd a m n z o x k e m0 n1 hz h hn hk =>
      refine isi "tuple" (.tup e) ⟨_, rfl, ?_⟩
      rw [if_neg (show ¬ (Kn.tup a _).isT "tuple" = false from fun z => by cases z)]
      refine ⟨a, rfl, _, .inr (SqT.of e), ?_⟩
      rw [if_neg (by simp <;> omega)]
      refine ixT (i := 0) (SqT.of e) (v := .str "change") (atI_nat rfl) (isi "str" (.str _) ⟨_, rfl, ?_⟩)
      rw [if_neg (show ¬ (Kn.str _).isT "str" = false from fun z => by cases z)]
      refine ixT (i := 1) (SqT.of e) (v := .int m) (atI_nat rfl) ⟨_, .int m, rfl, .int m, _, rfl, ?_⟩
      rw [isInt_eq, if_neg (show ¬ (Kn.int m).isInt = false from fun z => by cases z)]
      refine ixT (i := 1) (SqT.of e) (v := .int m) (atI_nat rfl) ⟨_, rfl, ?_⟩
      rw [if_neg (by omega)]
      refine ixT (i := 2) (SqT.of e) (v := .int n) (atI_nat rfl) ⟨_, .int n, rfl, .int n, _, rfl, ?_⟩
      rw [isInt_eq, if_neg (show ¬ (Kn.int n).isInt = false from fun z => by cases z)]
      refine ixT (i := 2) (SqT.of e) (v := .int n) (atI_nat rfl) ⟨_, rfl, ?_⟩
      rw [if_neg (by omega)]
      refine ixT (i := 0) (SqT.of e) (v := .str "change") (atI_nat rfl) (eqNo (by decide +kernel) ⟨_, rfl, ?_⟩)
      rw [if_neg (by decide)]
      refine ixT (i := 0) (SqT.of e) (v := .str "change") (atI_nat rfl) (eqYes ⟨_, rfl, ?_⟩)
      rw [if_pos rfl]
      refine ⟨a, rfl, _, .inr (SqT.of e), eqIs ⟨_, rfl, ?_⟩⟩
      rw [if_pos (by simp)]
      refine ⟨a, _, rfl, SqT.of e, (fun hh => absurd hh.1 (by show ¬ (HT.sIx 6 0 (some 1) = 0); decide)), fun _ p1 m1 => ?_⟩
      generalize hg : upd H p1 _ = G1
      have s1 := sameOf m1 hg
      have f1 : G1 p1 = some (.tup [.int m]) := atOf hg
      clear hg
      refine ⟨a, _, rfl, SqT.of (s1 _ _ e), (fun hh => absurd hh.1 (by show ¬ (HT.sIx 6 0 (some 3) = 0); decide)), fun _ p2 m2 => ?_⟩
      generalize hg : upd G1 p2 _ = G2
      have s2 := sameOf m2 hg
      have f2 : G2 p2 = some (.tup [.str z, oV o, x]) := atOf hg
      clear hg
      refine ⟨p1, p2, _, _, rfl, rfl, SqT.of (s2 _ _ f1), SqT.of f2, by show 4 ≤ _; rw [sizeLine_eq]; decide, (fun z => by cases z), (fun _ z => by cases z), fun _ _ p3 m3 => ?_⟩
      generalize hg : upd G2 p3 _ = G3
      have s3 := sameOf m3 hg
      have f3 : G3 p3 = some (.tup [.int m, .str z, oV o, x]) := atOf hg
      clear hg
      refine ⟨_, rfl, ?_⟩
      exact ⟨.ref p3, none, -1, rfl, .odd3 f3 hz (h.same (s1.trans (s2.trans s3))) hn hk, fun H' s => q H' (s1.trans (s2.trans (s3.trans s)))⟩
    | @dropLen a m n l e hm m0 n1 hl =>
      refine isi "tuple" (.tup e) ⟨_, rfl, ?_⟩
      rw [if_neg (show ¬ (Kn.tup a _).isT "tuple" = false from fun z => by cases z)]
      refine ⟨a, rfl, _, .inr (SqT.of e), ?_⟩
      rw [if_neg (by simp <;> omega)]
      refine ixT (i := 0) (SqT.of e) (v := .str "drop") (atI_nat rfl) (isi "str" (.str _) ⟨_, rfl, ?_⟩)
      rw [if_neg (show ¬ (Kn.str _).isT "str" = false from fun z => by cases z)]
      refine ixT (i := 1) (SqT.of e) (v := .int m) (atI_nat rfl) ⟨_, .int m, rfl, .int m, _, rfl, ?_⟩
      rw [isInt_eq, if_neg (show ¬ (Kn.int m).isInt = false from fun z => by cases z)]
      refine ixT (i := 1) (SqT.of e) (v := .int m) (atI_nat rfl) ⟨_, rfl, ?_⟩
      rw [if_neg (by omega)]
      refine ixT (i := 2) (SqT.of e) (v := .int n) (atI_nat rfl) ⟨_, .int n, rfl, .int n, _, rfl, ?_⟩
      rw [isInt_eq, if_neg (show ¬ (Kn.int n).isInt = false from fun z => by cases z)]
      refine ixT (i := 2) (SqT.of e) (v := .int n) (atI_nat rfl) ⟨_, rfl, ?_⟩
      rw [if_neg (by omega)]
      refine ixT (i := 0) (SqT.of e) (v := .str "drop") (atI_nat rfl) (eqNo (by decide +kernel) ⟨_, rfl, ?_⟩)
      rw [if_neg (by decide)]
      refine ixT (i := 0) (SqT.of e) (v := .str "drop") (atI_nat rfl) (eqNo (by decide +kernel) ⟨_, rfl, ?_⟩)
      rw [if_neg (by decide)]
      refine ixT (i := 0) (SqT.of e) (v := .str "drop") (atI_nat rfl) (eqYes ⟨_, rfl, ?_⟩)
      rw [if_pos rfl]
      refine ⟨a, rfl, _, .inr (SqT.of e), eqIs ?_⟩
      have ll : l.length ≠ 0 := fun z => hl (List.eq_nil_of_length_eq_zero z)
      rw [decide_eq_false (by simp; omega)]
      exact q0
    | @drop a m n e m0 n1 =>
      refine isi "tuple" (.tup e) ⟨_, rfl, ?_⟩
      rw [if_neg (show ¬ (Kn.tup a _).isT "tuple" = false from fun z => by cases z)]
      refine ⟨a, rfl, _, .inr (SqT.of e), ?_⟩
      rw [if_neg (by simp <;> omega)]
      refine ixT (i := 0) (SqT.of e) (v := .str "drop") (atI_nat rfl) (isi "str" (.str _) ⟨_, rfl, ?_⟩)
      rw [if_neg (show ¬ (Kn.str _).isT "str" = false from fun z => by cases z)]
      refine ixT (i := 1) (SqT.of e) (v := .int m) (atI_nat rfl) ⟨_, .int m, rfl, .int m, _, rfl, ?_⟩
      rw [isInt_eq, if_neg (show ¬ (Kn.int m).isInt = false from fun z => by cases z)]
      refine ixT (i := 1) (SqT.of e) (v := .int m) (atI_nat rfl) ⟨_, rfl, ?_⟩
      rw [if_neg (by omega)]
      refine ixT (i := 2) (SqT.of e) (v := .int n) (atI_nat rfl) ⟨_, .int n, rfl, .int n, _, rfl, ?_⟩
      rw [isInt_eq, if_neg (show ¬ (Kn.int n).isInt = false from fun z => by cases z)]
      refine ixT (i := 2) (SqT.of e) (v := .int n) (atI_nat rfl) ⟨_, rfl, ?_⟩
      rw [if_neg (by omega)]
      refine ixT (i := 0) (SqT.of e) (v := .str "drop") (atI_nat rfl) (eqNo (by decide +kernel) ⟨_, rfl, ?_⟩)
      rw [if_neg (by decide)]
      refine ixT (i := 0) (SqT.of e) (v := .str "drop") (atI_nat rfl) (eqNo (by decide +kernel) ⟨_, rfl, ?_⟩)
      rw [if_neg (by decide)]
      refine ixT (i := 0) (SqT.of e) (v := .str "drop") (atI_nat rfl) (eqYes ⟨_, rfl, ?_⟩)
      rw [if_pos rfl]
      exact ⟨a, rfl, _, .inr (SqT.of e), eqIs q0⟩

theorem valV_mem : ∀ {kvs : List (Key × V)} {k : Key} {v : V}, (kvs.map (·.1)).Nodup → (k, v) ∈ kvs → valV kvs k = some v
  | [], _, _, _, h => by cases h
  | (k', v') :: kvs, k, v, nd, h => by
    rw [List.map_cons] at nd
    have nd2 := List.nodup_cons.mp nd
    rcases List.mem_cons.mp h with e | h
    · cases e
      exact valV_pos rfl
    · rw [valV_neg (fun e => nd2.1 (by rw [show k' = k from e]; exact List.mem_map.mpr ⟨_, h, rfl⟩))]
      exact valV_mem nd2.2 h
abbrev Ct : Type := Str → Option Int
def updC (f : Ct) (z : Str) (v : Option Int) : Ct := fun y => if y = z then v else f y
/-- a dict of a content -/
structure Rep (kvs : List (Key × V)) (f : Ct) : Prop where
  kv : ∀ p ∈ kvs, ∃ z v, p = (Sum.inr z, V.int v)
  nd : (kvs.map (·.1)).Nodup
  val : ∀ z, valV kvs (.inr z) = (f z).map V.int
theorem Rep.nil : Rep [] fun _ => none := ⟨(fun p h => nomatch h), by simp, fun z => rfl⟩
theorem mem_valV {kvs : List (Key × V)} {k : Key} {v : V} (h : valV kvs k = some v) : (k, v) ∈ kvs := by
  unfold valV at h
  cases e : kvs.find? fun p => decide (p.1 = k) with
  | none =>
    rw [e] at h
    cases h
  | some p =>
    rw [e] at h
    cases h
    have h1 := List.mem_of_find?_eq_some e
    have h2 := List.find?_some e
    simp at h2
    rw [← h2]
    exact h1
theorem Rep.mem {kvs : List (Key × V)} {f : Ct} (h : Rep kvs f) {z : Str} {v : V} (hm : (Sum.inr z, v) ∈ kvs) : ∃ i, v = .int i ∧ f z = some i := by
  have e := valV_mem h.nd hm
  rw [h.val z] at e
  cases ef : f z with
  | none =>
    rw [ef] at e
    cases e
  | some i =>
    rw [ef] at e
    exact ⟨i, (Option.some.inj e).symm, rfl⟩
theorem putK_mem {kvs : List (Key × V)} {k : Key} {v : V} {e : Key × V} (h : e ∈ putK kvs k v) : e ∈ kvs ∨ e = (k, v) := by
  unfold putK at h
  split at h
  · obtain ⟨a, ha, rfl⟩ := List.mem_map.mp h
    split
    · rename_i e2
      rw [e2]
      exact .inr rfl
    · exact .inl ha
  · simpa using h
theorem Rep.put {kvs : List (Key × V)} {f : Ct} (h : Rep kvs f) (z : Str) (v : Int) : Rep (putK kvs (.inr z) (.int v)) (updC f z (some v)) := by
  refine ⟨fun e he => ?_, ?_, fun y => ?_⟩
  · rcases putK_mem he with he | rfl
    · exact h.kv e he
    · exact ⟨z, v, rfl⟩
  · rw [putK_keys]
    split
    · exact h.nd
    · rename_i hn
      exact List.nodup_append.mpr ⟨h.nd, by simp, fun a ha c hc => by
        rw [List.mem_singleton] at hc
        subst hc
        intro e
        subst e
        exact hn ha⟩
  · rw [valV_put]
    unfold updC
    by_cases e : y = z
    · subst e
      rw [if_pos rfl, if_pos rfl]
      rfl
    · rw [if_neg (fun z => e (by simpa using z)), if_neg e]
      exact h.val y
theorem valV_drop (kvs : List (Key × V)) (k j : Key) : valV (dropK kvs k) j = if j = k then none else valV kvs j := by
  unfold valV dropK
  rw [List.find?_filter]
  by_cases e : j = k
  · subst e
    rw [if_pos rfl]
    rw [List.find?_eq_none.mpr fun x _ => by simp]
    rfl
  · rw [if_neg e]
    congr 2
    funext a
    by_cases e2 : a.1 = j
    · rw [e2]
      simp [e]
    · simp [e2]
theorem Rep.drop {kvs : List (Key × V)} {f : Ct} (h : Rep kvs f) (z : Str) : Rep (dropK kvs (.inr z)) (updC f z none) := by
  refine ⟨fun e he => h.kv e (List.mem_filter.mp he).1, ?_, fun y => ?_⟩
  · exact h.nd.sublist ((List.filter_sublist).map _)
  · rw [valV_drop]
    unfold updC
    by_cases e : y = z
    · subst e
      rw [if_pos rfl, if_pos rfl]
      rfl
    · rw [if_neg (fun z => e (by simpa using z)), if_neg e]
      exact h.val y
theorem Rep.gone {kvs : List (Key × V)} {f : Ct} (h : Rep kvs f) {z : Str} (hz : f z = none) : Rep kvs (updC f z none) := by
  refine ⟨h.kv, h.nd, fun y => ?_⟩
  unfold updC
  by_cases e : y = z
  · subst e
    rw [if_pos rfl, h.val y, hz]
  · rw [if_neg e]
    exact h.val y
theorem updC_two (f : Ct) (z : Str) (u v : Option Int) : updC (updC f z u) z v = updC f z v := by
  funext y
  unfold updC
  split <;> rfl
theorem nodup_len {α : Type} : ∀ {l m : List α}, l.Nodup → (∀ s ∈ l, s ∈ m) → l.length ≤ m.length
  | [], _, _, _ => Nat.zero_le _
  | x :: l, m, nd, h => by
    obtain ⟨s, t, rfl⟩ := List.append_of_mem (h x List.mem_cons_self)
    have n1 := List.nodup_cons.mp nd
    have ih := nodup_len (l := l) (m := s ++ t) n1.2 fun y hy => by
      rcases List.mem_append.mp (h y (List.mem_cons_of_mem _ hy)) with z | z
      · exact List.mem_append_left _ z
      · rcases List.mem_cons.mp z with e | z
        · subst e
          exact absurd hy n1.1
        · exact List.mem_append_right _ z
    simp at ih ⊢
    omega
theorem get_ref {as : List Addr} {i : Nat} {y : V} (h : (as.map V.ref)[i]? = some y) : ∃ a, as[i]? = some a ∧ y = .ref a := by
  rw [List.getElem?_map] at h
  cases e : as[i]? with
  | none =>
    rw [e] at h
    cases h
  | some a =>
    rw [e] at h
    cases h
    exact ⟨a, rfl, rfl⟩
/-- some of the rows -/
theorem lc_sel {K : Frag} {tl te : TE} {tt : TT} {σ : L2.St} {i : Nat} {H : Hp} {l : Addr} {as : List Addr} {rs : List LRow} {c : LRow → Bool} {Q : VK} (hL : H l = some (.lst (as.map V.ref))) (hrs : RowsAt H as rs) (few : rs.length ≤ 10000)
    (hl : ∀ Q' : VK, Q' (.ref l) H → tl σ H Q') (hw : ∀ x, wipe ((wipe σ [i]).set i (some x)) [i] = wipe σ [i])
    (ht : ∀ a r G Q', G a = some (.tup (rowV r)) → Same H G → (∀ G', Same G G' → Q' (c r) G') → tt ((wipe σ [i]).set i (some (.ref a))) G Q')
    (he : ∀ x G Q', Q' x G → te ((wipe σ [i]).set i (some x)) G Q')
    (q : ∀ G D bs, Same H G → H D = none → G D = some (.lst (bs.map V.ref)) → RowsAt G bs (rs.filter c) → Q (.ref D) G) : tLc (iList K tl) (gName i) tt te [i] σ H Q := by
  refine hl _ ⟨l, rfl, ⟨_, SqL.of hL⟩, fun D hD => ?_⟩
  refine lc_it (walk_list (xs := as.map V.ref)) (fun j H2 => ∃ bs, H2 D = some (.lst (bs.map V.ref)) ∧ RowsAt H2 bs ((rs.take j).filter c) ∧ Same H H2) ⟨[], by rw [upd_same]; rfl, .nil, Same.upd (Same.refl _) hD⟩ (fun j H2 _ ⟨_, _, _, s⟩ => SqL.of (s _ _ hL)) ?_ ?_
  · rintro j y H2 H3 hj ⟨bs, hb, hbs, s2⟩ ⟨rfl, hy⟩
    refine ⟨hw _, ?_⟩
    obtain ⟨a, ha, rfl⟩ := get_ref hy
    obtain ⟨r, hr, hat⟩ := hrs.at ha
    refine ht a r H3 _ (s2 _ _ hat) s2 fun G' sG => ?_
    have lb := hbs.len
    have lf := List.length_filter_le c (rs.take j)
    rw [List.length_take] at lf
    have ee : (rs.take (j + 1)).filter c = (rs.take j).filter c ++ [r].filter c := by
      rw [List.take_add_one, hr, List.filter_append]
      rfl
    cases hc : c r with
    | true =>
      rw [if_pos rfl]
      have tk : Tk G' (upd G' D (.lst (bs.map V.ref ++ [.ref a]))) := Tk.upd (sG _ _ hb) (fun _ z => by cases z)
      refine he _ _ _ ⟨_, sG _ _ hb, by rw [List.length_map, sizeLine_eq]; omega, bs ++ [a], by rw [upd_same, List.map_append]; rfl, ?_, same_own hD (s2.trans sG)⟩
      rw [ee, List.filter_cons, hc, if_pos rfl]
      exact ((hbs.tk (.same sG)).tk tk).app (.cons (tk _ _ (sG _ _ (s2 _ _ hat))) .nil)
    | false =>
      rw [if_neg (by decide)]
      refine ⟨bs, sG _ _ hb, ?_, s2.trans sG⟩
      rw [ee, List.filter_cons, hc, if_neg (by decide), List.filter_nil, List.append_nil]
      exact hbs.tk (.same sG)
  · rintro H2 ⟨bs, hb, hbs, s2⟩
    rw [List.length_map, hrs.len, List.take_length] at hbs
    exact q H2 D bs s2 hD hb hbs
theorem same_mk {H G G' : Hp} {x : Addr} (n : H x = none) (s : Same H G) (e : Ex x G G') : Same H G' := fun c o h => e c o (ne_of_none h n) (s c o h)
theorem newLog {K : Frag} {σ : L2.St} {t : TA} {H : Hp} {b : Int} {Q : VK} {E : XK} (b0 : 0 ≤ b) (b1 : b ≤ 1000) (ht : ∀ Q' : List V → Hp → Prop, Q' [V.int b] H → t σ H Q') (q : ∀ G x L, Same H G → H x = none → H L = none → LogAt K G x L b 0 [] [] → Q (.ref x) G) : tMake (ga K "ChangeLog") (sp_ChangeLog_init K) [] E t σ H Q := by
  refine ht _ ?_
  intro x dx nx ndx ne
  have s := same_made (o := .own x) (C := ga K "ChangeLog") (fs := []) nx ndx ne
  exact ⟨x, dx, .int b, .int b, rfl, upd_same, .int b, .inr ⟨b, rfl, b0, b1, fun G L lg ex nL => ⟨rfl, q G x L (same_mk nx s ex) nx (s.free nL) lg⟩⟩⟩

/-! what a recovery knows -/
structure Sh where
  ar : Addr
  c : Ct
  f : Int
  rs : List LRow
structure RS where
  mom : Int
  sh : Int → Option Sh
def setS {α : Type} (s : Int → α) (n : Int) (h : α) : Int → α := fun j => if j = n then h else s j
theorem setS_same {α : Type} {s : Int → α} {n : Int} {h : α} : setS s n h n = h := if_pos rfl
theorem setS_ne {α : Type} {s : Int → α} {n j : Int} {h : α} (e : j ≠ n) : setS s n h j = s j := if_neg e
def ctOf (rws : List (Option (Str × Int))) : Ct := rws.foldl (fun g r => match r with | some (z, v) => updC g z (some v) | none => g) fun _ => none
def chsOf (cs : List (Option LRow)) : List LRow := cs.filterMap id
def cutF (b f : Int) (rs : List LRow) : Int := floorOf f rs (rs.length - b.toNat)
def cutR (b : Int) (rs : List LRow) : List LRow := rs.drop (rs.length - b.toNat)
def stepE (b : Int) (s : RS) : Option En → Option RS
  | none => none
  | some (.own m n (ar, f, rws, chs)) => if m < s.mom then none else match s.sh n with
      | some _ => none
      | none => some ⟨m, setS s.sh n (some ⟨ar, ctOf rws, cutF b f (chsOf chs), cutR b (chsOf chs)⟩)⟩
  | some (.drop m n) => if m < s.mom then none else match s.sh n with
      | none => none
      | some _ => some ⟨m, setS s.sh n none⟩
  | some (.chg m n z o w) => if m < s.mom then none else match s.sh n with
      | none => none
      | some h => if h.c z = o ∧ lastOf h.f h.rs < m then some ⟨m, setS s.sh n (some ⟨h.ar, updC h.c z w, cutF b h.f (h.rs ++ [(m, z, o, w)]), cutR b (h.rs ++ [(m, z, o, w)])⟩)⟩ else none
/-- where a shard lies -/
structure ShA where
  t : Addr
  R : Addr
  L : Addr
  C : Addr
structure ShAt (K : Frag) (H : Hp) (a : ShA) (b : Int) (h : Sh) (N : Nat) : Prop where
  t : H a.t = some (.tup [.ref h.ar, .ref a.R, .ref a.L])
  R : ∃ kvs, H a.R = some (.dK kvs) ∧ Rep kvs h.c ∧ kvs.length ≤ N
  log : ∃ as, LogAt K H a.L a.C b h.f as h.rs
  few : h.rs.length ≤ N
theorem ShAt.same {K : Frag} {H H' : Hp} {a : ShA} {b : Int} {h : Sh} {N : Nat} (g : ShAt K H a b h N) (s : Same H H') : ShAt K H' a b h N := by
  obtain ⟨h1, ⟨kvs, h2, h3⟩, ⟨as, h4⟩, h5⟩ := g
  exact ⟨s _ _ h1, ⟨kvs, s _ _ h2, h3⟩, ⟨as, h4.same s⟩, h5⟩
theorem ShAt.mono {K : Frag} {H : Hp} {a : ShA} {b : Int} {h : Sh} {N M : Nat} (g : ShAt K H a b h N) (l : N ≤ M) : ShAt K H a b h M := by
  obtain ⟨h1, ⟨kvs, h2, h3, h6⟩, h4, h5⟩ := g
  exact ⟨h1, ⟨kvs, h2, h3, by omega⟩, h4, by omega⟩
structure RecAt (K : Frag) (H0 H : Hp) (x D : Addr) (b : Int) (s : RS) (A : Int → ShA) (N : Nat) : Prop where
  base : Same H0 H
  ins : ∃ dx, H x = some (.ins (ga K "Recovery") dx [("own_bound", .int b), ("own_moment", .int s.mom), ("own_shards", .ref D)])
  dct : ∃ kvs, H D = some (.dK kvs) ∧ (∀ n, valV kvs (.inl n) = (s.sh n).map fun _ => V.ref (A n).t) ∧ (∀ p ∈ kvs, ∃ n, p.1 = .inl n) ∧ (kvs.map (·.1)).Nodup ∧ kvs.length ≤ N
  sh : ∀ n h, s.sh n = some h → ShAt K H (A n) b h N
  sep : ∀ n n' h h', s.sh n = some h → s.sh n' = some h' → n ≠ n' → (A n).R ≠ (A n').R ∧ (A n).L ≠ (A n').L ∧ (A n).C ≠ (A n').C
  nD : ∀ n h, s.sh n = some h → (A n).R ≠ D ∧ (A n).L ≠ x
  nx : H0 x = none
  nd : H0 D = none
  nA : ∀ n h, s.sh n = some h → H0 (A n).R = none ∧ H0 (A n).L = none ∧ H0 (A n).C = none
theorem RecAt.same {K : Frag} {H0 H H' : Hp} {x D : Addr} {b : Int} {s : RS} {A : Int → ShA} {N : Nat} (g : RecAt K H0 H x D b s A N) (e : Same H H') : RecAt K H0 H' x D b s A N := by
  obtain ⟨dx, h1⟩ := g.ins
  obtain ⟨kvs, h2, h3⟩ := g.dct
  exact ⟨g.base.trans e, ⟨dx, e _ _ h1⟩, ⟨kvs, e _ _ h2, h3⟩, fun n h hn => (g.sh n h hn).same e, g.sep, g.nD, g.nx, g.nd, g.nA⟩

theorem rws_pairs {K : Frag} {H : Hp} : ∀ {us : List V} {rws : List (Option (Str × Int))}, Paired (RwV K H) us rws → rws.all rowOk = true → ∃ (ps : List Addr) (kvs : List (Key × V)), us = ps.map V.ref ∧ Paired (fun p kv => SqT K H p [kV kv.1, kv.2]) ps kvs ∧ kvs.length = us.length ∧
    ∀ k0 g, Rep k0 g → Rep (mergeK k0 kvs) (rws.foldl (fun g r => match r with | some (z, v) => updC g z (some v) | none => g) g)
  | _, _, .nil, _ => ⟨[], [], rfl, .nil, rfl, fun k0 g h => h⟩
  | u :: us, c :: rws, .cons h t, ok => by
    rw [List.all_cons] at ok
    have ok := Bool.and_eq_true_iff.mp ok
    obtain ⟨b, z, n, rfl, rfl, hb⟩ := rowOk_row h ok.1
    obtain ⟨ps, kvs, rfl, hp, hl, rep⟩ := rws_pairs t ok.2
    exact ⟨b :: ps, (.inr z, .int n) :: kvs, rfl, .cons (SqT.of hb) hp, by simp [hl], fun k0 g h => rep _ _ (h.put z n)⟩
theorem chs_rows {K : Frag} {H : Hp} : ∀ {us : List V} {chs : List (Option LRow)} {l : Int}, Paired (ChV K H) us chs → chsOk l chs = true → ∃ as : List Addr, us = as.map V.ref ∧ RowsAt H as (chsOf chs) ∧ RowsOk (chsOf chs) ∧ (chsOf chs).length = us.length ∧ ∀ r ∈ chsOf chs, l < r.1
  | _, _, _, .nil, _ => ⟨[], rfl, .nil, (fun r h => nomatch h), rfl, fun r h => nomatch h⟩
  | u :: us, c :: chs, l, .cons h t, ok => by
    unfold chsOk at ok
    have ok := Bool.and_eq_true_iff.mp ok
    obtain ⟨b, r, rfl, rfl, hb⟩ := isChg_row h ok.1
    obtain ⟨as, rfl, hr, ho, hl, hm⟩ := chs_rows (l := r.1) t ok.2
    have lt : l < r.1 := by
      have := ok.1
      unfold isChg at this
      have := Bool.and_eq_true_iff.mp this
      exact of_decide_eq_true this.1
    have hs : PyData.strOk r.2.1 = true := by
      cases h with
      | row _ _ g => exact g
    refine ⟨b :: as, rfl, .cons hb hr, fun r' h' => ?_, by simpa [chsOf] using hl, fun r' h' => ?_⟩
    · rcases List.mem_cons.mp h' with e | e
      · rw [e]
        exact hs
      · exact ho r' e
    · rcases List.mem_cons.mp h' with e | e
      · rw [e]
        exact lt
      · have := hm r' e
        omega
theorem ShAt.ex {K : Frag} {H H' : Hp} {a : ShA} {b : Int} {h : Sh} {N : Nat} {D : Addr} {kvs : List (Key × V)} (g : ShAt K H a b h N) (x : Ex D H H') (hD : H D = some (.dK kvs)) (n : a.R ≠ D) : ShAt K H' a b h N := by
  obtain ⟨h1, ⟨kv, h2, h3⟩, ⟨as, ⟨dx, l1⟩, l2, l3, l4, l5⟩, h5⟩ := g
  exact ⟨x _ _ (ne_of h1 hD (fun z => by cases z)) h1, ⟨kv, x _ _ n h2, h3⟩, ⟨as, ⟨dx, x _ _ (ne_of l1 hD (fun z => by cases z)) l1⟩, x _ _ (ne_of l2 hD (fun z => by cases z)) l2, l3.tk fun c xs hc => x _ _ (ne_of hc hD (fun z => by cases z)) hc, l4, l5⟩, h5⟩
theorem putK_nd {kvs : List (Key × V)} {k : Key} {v : V} (h : (kvs.map (·.1)).Nodup) : ((putK kvs k v).map (·.1)).Nodup := by
  rw [putK_keys]
  split
  · exact h
  · rename_i hn
    exact List.nodup_append.mpr ⟨h, by simp, fun a ha c hc => by
      rw [List.mem_singleton] at hc
      subst hc
      intro e
      subst e
      exact hn ha⟩
theorem mergeK_len : ∀ {more kvs : List (Key × V)}, (mergeK kvs more).length ≤ kvs.length + more.length := fun {more kvs} => by
  have := length_mergeK more kvs
  omega
/-- a new shard is put in -/
theorem RecAt.put {K : Frag} {H0 H G H' : Hp} {x D : Addr} {b : Int} {s : RS} {A : Int → ShA} {N : Nat} {n : Int} {h : Sh} {na : ShA} (g : RecAt K H0 H x D b s A N) (hs : s.sh n = none) (k : Same H G) (nR : H na.R = none) (nL : H na.L = none) (nC : H na.C = none) (sh : ShAt K G na b h N) (hg : ∀ kvs, H D = some (.dK kvs) → H' = upd G D (.dK (putK kvs (.inl n) (.ref na.t)))) :
    RecAt K H0 H' x D b ⟨s.mom, setS s.sh n (some h)⟩ (setS A n na) (N + 1) := by
  obtain ⟨dx, hx⟩ := g.ins
  obtain ⟨kvs, hD, hval, hint, hnd, lk⟩ := g.dct
  have hh := hg kvs hD
  have hDG := k _ _ hD
  have x4 : Ex D G H' := by
    rw [hh]
    exact Ex.refl.upd
  have hD' : H' D = some (.dK (putK kvs (.inl n) (.ref na.t))) := by rw [hh, upd_same]
  clear hh hg
  have there : ∀ j hj, s.sh j = some hj → (A j).R ≠ na.R ∧ (A j).L ≠ na.L ∧ (A j).C ≠ na.C := fun j hj e => by
    obtain ⟨h1, ⟨kv, h2, h3⟩, ⟨as, ⟨dx, l1⟩, l2, l3, l4, l5⟩, h5⟩ := g.sh j hj e
    exact ⟨ne_of_none h2 nR, ne_of_none l1 nL, ne_of_none l2 nC⟩
  have nRD : na.R ≠ D := (ne_of_none hD nR).symm
  have nLx : na.L ≠ x := (ne_of_none hx nL).symm
  refine ⟨fun c o e => x4 _ _ (ne_of_none e g.nd) (k _ _ (g.base _ _ e)), ⟨dx, x4 _ _ (ne_of (k _ _ hx) hDG (fun z => by cases z)) (k _ _ hx)⟩, ⟨_, hD', fun j => ?_, fun p hp => ?_, putK_nd hnd, by have := length_putK kvs (.inl n) (.ref na.t); omega⟩, fun j hj e => ?_, fun j j' h1 h2 e1 e2 ne => ?_, fun j h1 e1 => ?_, g.nx, g.nd, fun j h1 e1 => ?_⟩
  · rw [valV_put]
    by_cases e : j = n
    · subst e
      rw [if_pos rfl]
      show _ = (setS s.sh j (some h) j).map _
      rw [setS_same, setS_same]
      rfl
    · rw [if_neg (fun z => e (by cases z; rfl)), hval j]
      show _ = (setS s.sh n (some h) j).map _
      rw [setS_ne e, setS_ne e]
  · rcases putK_mem hp with hp | rfl
    · exact hint p hp
    · exact ⟨n, rfl⟩
  · by_cases en : j = n
    · subst en
      have e' : setS s.sh j (some h) j = some hj := e
      rw [setS_same] at e'
      cases e'
      rw [setS_same]
      exact (sh.ex x4 hDG nRD).mono (by omega)
    · have e' : setS s.sh n (some h) j = some hj := e
      rw [setS_ne en] at e'
      rw [setS_ne en]
      exact (((g.sh j hj e').same k).ex x4 hDG (g.nD j hj e').1).mono (by omega)
  · have e1' : setS s.sh n (some h) j = some h1 := e1
    have e2' : setS s.sh n (some h) j' = some h2 := e2
    by_cases en : j = n
    · subst en
      rw [setS_ne (Ne.symm ne)] at e2'
      rw [setS_same, setS_ne (Ne.symm ne)]
      obtain ⟨a1, a2, a3⟩ := there j' h2 e2'
      exact ⟨a1.symm, a2.symm, a3.symm⟩
    · rw [setS_ne en] at e1'
      rw [setS_ne en]
      by_cases en' : j' = n
      · subst en'
        rw [setS_same]
        exact there j h1 e1'
      · rw [setS_ne en'] at e2'
        rw [setS_ne en']
        exact g.sep j j' h1 h2 e1' e2' ne
  · have e1' : setS s.sh n (some h) j = some h1 := e1
    by_cases en : j = n
    · subst en
      rw [setS_same]
      exact ⟨nRD, nLx⟩
    · rw [setS_ne en] at e1'
      rw [setS_ne en]
      exact g.nD j h1 e1'
  · have e1' : setS s.sh n (some h) j = some h1 := e1
    by_cases en : j = n
    · subst en
      rw [setS_same]
      exact ⟨g.base.free nR, g.base.free nL, g.base.free nC⟩
    · rw [setS_ne en] at e1'
      rw [setS_ne en]
      exact g.nA j h1 e1'
theorem ShAt.off {K : Frag} {H H' : Hp} {a a' : ShA} {b : Int} {h h' : Sh} {N : Nat} (g : ShAt K H a b h N) (g' : ShAt K H a' b h' N) (x : ∀ c o, c ≠ a'.L → c ≠ a'.C → c ≠ a'.R → H c = some o → H' c = some o) (n1 : a.R ≠ a'.R) (n2 : a.L ≠ a'.L) (n3 : a.C ≠ a'.C) : ShAt K H' a b h N := by
  obtain ⟨h1, ⟨kv, h2, h3⟩, ⟨as, ⟨dx, l1⟩, l2, l3, l4, l5⟩, h5⟩ := g
  obtain ⟨_, ⟨kv', r2, _⟩, ⟨as', ⟨dx', m1⟩, m2, _⟩, _⟩ := g'
  have k : ∀ c xs, H c = some (.tup xs) → H' c = some (.tup xs) := fun c xs hc => x _ _ (ne_of hc m1 (fun z => by cases z)) (ne_of hc m2 (fun z => by cases z)) (ne_of hc r2 (fun z => by cases z)) hc
  exact ⟨k _ _ h1, ⟨kv, x _ _ (ne_of h2 m1 (fun z => by cases z)) (ne_of h2 m2 (fun z => by cases z)) n1 h2, h3⟩, ⟨as, ⟨dx, x _ _ n2 (ne_of l1 m2 (fun z => by cases z)) (ne_of l1 r2 (fun z => by cases z)) l1⟩, x _ _ (ne_of l2 m1 (fun z => by cases z)) n3 (ne_of l2 r2 (fun z => by cases z)) l2, l3.tk k, l4, l5⟩, h5⟩
/-- a shard is changed -/
theorem RecAt.chg {K : Frag} {H0 H H' : Hp} {x D : Addr} {b : Int} {s : RS} {A : Int → ShA} {N : Nat} {n : Int} {h h' : Sh} (g : RecAt K H0 H x D b s A N) (hs : s.sh n = some h) (ex : ∀ c o, c ≠ (A n).L → c ≠ (A n).C → c ≠ (A n).R → H c = some o → H' c = some o) (sh : ShAt K H' (A n) b h' (N + 1)) :
    RecAt K H0 H' x D b ⟨s.mom, setS s.sh n (some h')⟩ A (N + 1) := by
  obtain ⟨dx, hx⟩ := g.ins
  obtain ⟨kvs, hD, hval, hint, hnd, lk⟩ := g.dct
  have gn := g.sh n h hs
  obtain ⟨_, ⟨kv', r2, _⟩, ⟨as', ⟨dx', m1⟩, m2, _⟩, _⟩ := id gn
  obtain ⟨d1, d2⟩ := g.nD n h hs
  obtain ⟨a1, a2, a3⟩ := g.nA n h hs
  have new : ∀ j hj, setS s.sh n (some h') j = some hj → ∃ h0, s.sh j = some h0 := fun j hj e => by
    by_cases en : j = n
    · subst en
      exact ⟨h, hs⟩
    · rw [setS_ne en] at e
      exact ⟨hj, e⟩
  refine ⟨fun c o e => ex _ _ (ne_of_none e a2) (ne_of_none e a3) (ne_of_none e a1) (g.base _ _ e), ⟨dx, ex _ _ d2.symm (ne_of hx m2 (fun z => by cases z)) (ne_of hx r2 (fun z => by cases z)) hx⟩, ⟨kvs, ex _ _ (ne_of hD m1 (fun z => by cases z)) (ne_of hD m2 (fun z => by cases z)) d1.symm hD, fun j => ?_, hint, hnd, by omega⟩, fun j hj e => ?_, fun j j' h1 h2 e1 e2 ne => ?_, fun j h1 e1 => ?_, g.nx, g.nd, fun j h1 e1 => ?_⟩
  · rw [hval j]
    show _ = (setS s.sh n (some h') j).map _
    by_cases en : j = n
    · subst en
      rw [setS_same, hs]
      rfl
    · rw [setS_ne en]
  · have e' : setS s.sh n (some h') j = some hj := e
    by_cases en : j = n
    · subst en
      rw [setS_same] at e'
      cases e'
      exact sh
    · rw [setS_ne en] at e'
      obtain ⟨s1, s2, s3⟩ := g.sep j n hj h e' hs en
      exact ((g.sh j hj e').off gn ex s1 s2 s3).mono (by omega)
  · obtain ⟨k1, e1'⟩ := new j h1 e1
    obtain ⟨k2, e2'⟩ := new j' h2 e2
    exact g.sep j j' k1 k2 e1' e2' ne
  · obtain ⟨k1, e1'⟩ := new j h1 e1
    exact g.nD j k1 e1'
  · obtain ⟨k1, e1'⟩ := new j h1 e1
    exact g.nA j k1 e1'
theorem neO {H : Hp} {a b : Option Int} {Q : VK} (k : Q (.bl (!decide (a = b))) H) : rNe (oV a) (oV b) H Q := by
  have e : decide (oV a = oV b) = decide (a = b) := by
    cases a <;> cases b <;> simp [oV]
  refine ⟨by cases a <;> cases b <;> rfl, ?_⟩
  rw [e]
  exact k

/-- the moment is set -/
theorem RecAt.now {K : Frag} {H0 H H' : Hp} {x D : Addr} {b : Int} {s : RS} {A : Int → ShA} {N : Nat} {m : Int} {dx : Addr} (g : RecAt K H0 H x D b s A N) (ex : Ex x H H') (hx : H' x = some (.ins (ga K "Recovery") dx [("own_bound", .int b), ("own_moment", .int m), ("own_shards", .ref D)])) : RecAt K H0 H' x D b ⟨m, s.sh⟩ A N := by
  obtain ⟨dx0, hx0⟩ := g.ins
  obtain ⟨kvs, hD, hval, r⟩ := g.dct
  refine ⟨fun c o e => ex _ _ (ne_of_none e g.nx) (g.base _ _ e), ⟨dx, hx⟩, ⟨kvs, ex _ _ (ne_of hD hx0 (fun z => by cases z)) hD, hval, r⟩, fun n h e => ?_, g.sep, g.nD, g.nx, g.nd, g.nA⟩
  obtain ⟨h1, ⟨kv, h2, h3⟩, ⟨as, ⟨dxl, l1⟩, l2, l3, l4, l5⟩, h5⟩ := g.sh n h e
  exact ⟨ex _ _ (ne_of h1 hx0 (fun z => by cases z)) h1, ⟨kv, ex _ _ (ne_of h2 hx0 (fun z => by cases z)) h2, h3⟩, ⟨as, ⟨dxl, ex _ _ (g.nD n h e).2 l1⟩, ex _ _ (ne_of l2 hx0 (fun z => by cases z)) l2, l3.tk fun c xs hc => ex _ _ (ne_of hc hx0 (fun z => by cases z)) hc, l4, l5⟩, h5⟩
theorem dropK_nd {kvs : List (Key × V)} {k : Key} (h : (kvs.map (·.1)).Nodup) : ((dropK kvs k).map (·.1)).Nodup := h.sublist ((List.filter_sublist).map _)
/-- a shard goes -/
theorem RecAt.gone {K : Frag} {H0 H H' : Hp} {x D : Addr} {b : Int} {s : RS} {A : Int → ShA} {N : Nat} {n : Int} (g : RecAt K H0 H x D b s A N) (hg : ∀ kvs, H D = some (.dK kvs) → H' = upd H D (.dK (dropK kvs (.inl n)))) : RecAt K H0 H' x D b ⟨s.mom, setS s.sh n none⟩ A N := by
  obtain ⟨dx, hx⟩ := g.ins
  obtain ⟨kvs, hD, hval, hint, hnd, lk⟩ := g.dct
  have hh := hg kvs hD
  have x4 : Ex D H H' := by
    rw [hh]
    exact Ex.refl.upd
  have hD' : H' D = some (.dK (dropK kvs (.inl n))) := by rw [hh, upd_same]
  clear hh hg
  have old : ∀ j hj, setS s.sh n none j = some hj → s.sh j = some hj := fun j hj e => by
    by_cases en : j = n
    · subst en
      rw [setS_same] at e
      cases e
    · rwa [setS_ne en] at e
  have l0 : (dropK kvs (.inl n)).length ≤ kvs.length := List.length_filter_le _ _
  refine ⟨fun c o e => x4 _ _ (ne_of_none e g.nd) (g.base _ _ e), ⟨dx, x4 _ _ (ne_of hx hD (fun z => by cases z)) hx⟩, ⟨_, hD', fun j => ?_, fun p hp => hint p (List.mem_filter.mp hp).1, dropK_nd hnd, by omega⟩, fun j hj e => (g.sh j hj (old j hj e)).ex x4 hD (g.nD j hj (old j hj e)).1, fun j j' h1 h2 e1 e2 ne => g.sep j j' h1 h2 (old j h1 e1) (old j' h2 e2) ne, fun j h1 e1 => g.nD j h1 (old j h1 e1), g.nx, g.nd, fun j h1 e1 => g.nA j h1 (old j h1 e1)⟩
  rw [valV_drop]
  show _ = (setS s.sh n none j).map _
  by_cases e : j = n
  · subst e
    rw [if_pos rfl, setS_same]
    rfl
  · rw [if_neg (fun z => e (by cases z; rfl)), hval j, setS_ne e]
theorem RecAt.mono {K : Frag} {H0 H : Hp} {x D : Addr} {b : Int} {s : RS} {A : Int → ShA} {N M : Nat} (g : RecAt K H0 H x D b s A N) (l : N ≤ M) : RecAt K H0 H x D b s A M := by
  obtain ⟨kvs, hD, hval, hint, hnd, lk⟩ := g.dct
  exact ⟨g.base, g.ins, ⟨kvs, hD, hval, hint, hnd, by omega⟩, fun n h e => (g.sh n h e).mono l, g.sep, g.nD, g.nx, g.nd, g.nA⟩

def sp_log_with (K : Frag) : Sp := fun vs H Q _ => ∃ (l : Addr) (b f : Int) (as : List Addr) (rs : List LRow), vs = [.int b, .int f, .ref l] ∧ H l = some (.lst (as.map V.ref)) ∧ RowsAt H as rs ∧ RowsOk rs ∧ rs.length ≤ 1000 ∧ 0 ≤ b ∧ b ≤ 1000 ∧ (∀ r ∈ rs, f < r.1) ∧
  ∀ H' x L as', Same H H' → H x = none → H L = none → LogAt K H' x L b (floorOf f rs (rs.length - b.toNat)) as' (rs.drop (rs.length - b.toNat)) → Q (.ref x) H'
theorem sc_log_with : FnScope ["bound", "floor", "changes", "found", "change"] ["bound", "floor", "changes"] (defScope s_log_with) := ⟨rfl, rfl, rfl, by decide +kernel, rfl, by decide +kernel, by decide +kernel⟩
theorem ok_log_with {P : Program} {w : World} {K : Frag} {mg : Str → Option Value} {base : Heap} (T : Txt K mg) : FnB P w K mg base 6 (glA "log_with" K) (sp_log_with K) := by
  refine okD (N := ["bound", "floor", "changes", "found", "change"]) (ps := ["bound", "floor", "changes"]) (k := 5) (d := g_log_with) T.d_log_with rfl sc_log_with (fun vs H Q E h => ?_) (fun _ _ _ _ _ _ us hl => match us, hl with | [_, _, _], _ => rfl) (fun A outer s H vs Q E hr h => ?_)
  · obtain ⟨l, b, f, as, rs, rfl, hl, hrs, ok, few, b0, b1, hf, q⟩ := h
    rfl
  · have hu := hr.hu
    obtain ⟨l, b, f, as, rs, rfl, hl, hrs, ok, few, b0, b1, hf, q⟩ := h
    refine ⟨_, PSs.nox ((pss_cons (ps_set (i := 3) sc_log_with.nd rfl (Or.inl rfl) (pe_mkF T.k_ChangeLog (ok_ChangeLog_init (K := K) T) hr T.m_ChangeLog passL (pa_cons (pv 0) pa_nil)))
      (pss_cons (ps_fld (pv 3) (pv 1) rfl)
      (pss_cons (ps_fld (pv 3) (pe_lc (own := [("change", 4)]) (g := gName 4) rfl sc_log_with.nd (pi_list (pv 2)) (blkOk_by (N := ["bound", "floor", "changes", "found", "change"]) (sc := defScope s_log_with) (by decide +kernel)) (fun _ _ _ _ _ => pg_name (i := 4) sc_log_with.nd rfl (Or.inl rfl)) (fun _ _ _ _ _ => (pts_one (pt_cmpR op_gt (pe_ix (ix_tup : IxR _ (rIxT K)) (pv 4) pe_int (fun _ _ => rfl)) (pv 1) (nomark _)))) (fun _ _ _ _ _ => (pv 4))) rfl)
      (pss_cons (ps_expr (pe_mtF0 (pv 3) T.c_ChangeLog T.e_ChangeLog_trim (ok_ChangeLog_trim (K := K) T) hr passL))
      (pss_one (ps_ret (pv 3)))))))), ?_⟩
    walk_at "nm"
    refine newLog b0 b1 (fun Q' q' => ⟨_, rfl, q'⟩) fun G1 x L s1 nx nL lg => ?_
    obtain ⟨dx, hx⟩ := lg.ins
    have nxl : l ≠ x := ne_of_none hl nx
    -- the floor
    refine ⟨_, rfl, _, rfl, x, _, dx, _, rfl, hx, T.c_ChangeLog, T.n_ChangeLog_own_floor, (by walk_at "pf"; simp), ?_⟩
    generalize hg : upd G1 x _ = G2
    have x2 : Ex x G1 G2 := by
      rw [← hg]
      exact Ex.refl.upd
    have hx2 : G2 x = some (.ins (ga K "ChangeLog") dx [("own_bound", .int b), ("own_floor", .int f), ("own_changes", .ref L)]) := by
      rw [← hg, upd_same]
      walk_at "pf"
    clear hg
    have k2 : Same H G2 := fun c o h => x2 _ _ (ne_of_none h nx) (s1 _ _ h)
    walk_at "nm"
    -- the changes
    refine lc_sel (c := fun r => decide (f < r.1)) (k2 _ _ hl) (hrs.tk (.same k2)) (by omega) (fun Q' q' => ⟨_, rfl, q'⟩) (fun x => rfl) (fun c r G Q' hc s q' => ?_) (fun x G Q' q' => ⟨_, rfl, q'⟩) fun G3 D bs s3 nD hD hr => ?_
    · walk_at "nm"
      obtain ⟨m0, z, o, w⟩ := r
      exact ⟨_, rfl, ixT (i := 0) (SqT.of hc) (v := .int m0) rfl ⟨_, rfl, _, rfl, _, rfl, q' G (Same.refl _)⟩⟩
    rw [List.filter_eq_self.mpr fun r hr => decide_eq_true (hf r hr)] at hr
    have hx3 := s3 _ _ hx2
    refine ⟨_, rfl, x, _, dx, _, rfl, hx3, T.c_ChangeLog, T.n_ChangeLog_own_changes, (by simp), ?_⟩
    generalize hg : upd G3 x _ = G4
    have x4 : Ex x G3 G4 := by
      rw [← hg]
      exact Ex.refl.upd
    have hx4 : G4 x = some (.ins (ga K "ChangeLog") dx [("own_bound", .int b), ("own_floor", .int f), ("own_changes", .ref D)]) := by
      rw [← hg, upd_same]
      walk_at "pf"
    clear hg
    have nDx : D ≠ x := fun z => by
      rw [z, hx2] at nD
      cases nD
    have lg4 : LogAt K G4 x D b f bs rs := ⟨⟨dx, hx4⟩, x4 _ _ nDx hD, hr.tk fun c xs hb => x4 _ _ (ne_of hb hx3 (fun z => by cases z)) hb, ok, by omega⟩
    refine ⟨_, rfl, x, dx, _, rfl, hx4, (by rw [lookS (by decide +kernel), lookS (by decide +kernel), lookS (by decide +kernel)]; rfl), x, D, b, f, bs, rs, rfl, lg4, b0, fun G5 lg5 ex5 tk5 => ?_⟩
    refine ⟨_, rfl, q G5 x D _ (fun c o h => ?_) nx (k2.free nD) lg5⟩
    have h1 := ne_of_none h nx
    have h2 := ne_of_none h (k2.free nD)
    exact ex5 _ _ h1 h2 (x4 _ _ h1 (s3 _ _ (k2 _ _ h)))

def sp_Recovery_init (K : Frag) : Sp := fun vs H Q _ => ∃ (x dx : Addr) (b : Int), vs = [.ref x, .int b] ∧ H x = some (.ins (ga K "Recovery") dx []) ∧ 0 ≤ b ∧ ∀ H' D, H' x = some (.ins (ga K "Recovery") dx [("own_bound", .int b), ("own_moment", .int 0), ("own_shards", .ref D)]) → H' D = some (.dK []) → Ex x H H' → H D = none → Q .non H'
theorem sc_Recovery_init : FnScope ["self", "bound"] ["self", "bound"] (defScope s_Recovery_init) := ⟨rfl, rfl, rfl, by decide +kernel, rfl, by decide +kernel, by decide +kernel⟩
theorem ok_Recovery_init {P : Program} {w : World} {K : Frag} {mg : Str → Option Value} {base : Heap} (T : Txt K mg) : FnB P w K mg base 1 (mtA "Recovery" "__init__" K) (sp_Recovery_init K) := by
  refine okD (N := ["self", "bound"]) (ps := ["self", "bound"]) (k := 0) (d := g_Recovery_init) T.d_Recovery_init rfl sc_Recovery_init (fun vs H Q E h => ?_) (fun _ _ _ _ _ _ us hl => match us, hl with | [_, _], _ => rfl) (fun A outer s H vs Q E hr h => ?_)
  · obtain ⟨x, dx, b, rfl, hx, b0, q⟩ := h
    rfl
  · have hu := hr.hu
    obtain ⟨x, dx, b, rfl, hx, b0, q⟩ := h
    refine ⟨_, PSs.nox ((pss_cons (ps_fld (pv 0) (pv 1) rfl)
      (pss_cons (ps_fld (pv 0) pe_int rfl)
      (pss_one (ps_fld (pv 0) pe_dnewK rfl))))), ?_⟩
    walk_at "nm"
    refine ⟨_, rfl, _, rfl, x, _, dx, [], rfl, hx, T.c_Recovery, T.n_Recovery_own_bound, (by decide), ?_⟩
    refine ⟨_, rfl, x, _, dx, _, rfl, upd_same, T.c_Recovery, T.n_Recovery_own_moment, (by rw [putF0]; simp), ?_⟩
    intro D hD
    have hDx : D ≠ x := fun z => by
      rw [z, upd_same] at hD
      cases hD
    have hD0 : H D = none := by
      rw [upd_ne hDx, upd_ne hDx] at hD
      exact hD
    refine ⟨_, rfl, x, _, dx, _, rfl, upd_keep upd_same hD, T.c_Recovery, T.n_Recovery_own_shards, (by walk_at "pf"; simp), ?_⟩
    refine q _ D ?_ ?_ ?_ hD0
    · rw [upd_same]
      walk_at "pf"
    · rw [upd_ne hDx, upd_same]
    · intro c o hc e
      rw [upd_ne hc, upd_ne (ne_of_none e hD0), upd_ne hc, upd_ne hc]
      exact e

def sp_Recovery_take_own (K : Frag) : Sp := fun vs H Q _ => ∃ (H0 : Hp) (x D : Addr) (b : Int) (s : RS) (A : Int → ShA) (N : Nat) (v : V) (m n : Int) (ar : Addr) (f : Int) (rws : List (Option (Str × Int))) (chs : List (Option LRow)), vs = [.ref x, v] ∧ RecAt K H0 H x D b s A N ∧ 0 ≤ b ∧ b ≤ 1000 ∧ 1000 ≤ N ∧ N ≤ 5000 ∧ EnV K H0 v (some (.own m n (ar, f, rws, chs))) ∧
  (((s.sh n).isSome = true ∧ ∀ H', Same H0 H' → Q (.bl false) H') ∨ (s.sh n = none ∧ ∀ H' A', RecAt K H0 H' x D b ⟨s.mom, setS s.sh n (some ⟨ar, ctOf rws, cutF b f (chsOf chs), cutR b (chsOf chs)⟩)⟩ A' (N + 1) → Q (.bl true) H'))
theorem sc_Recovery_take_own : FnScope ["self", "entry", "log"] ["self", "entry"] (defScope s_Recovery_take_own) := ⟨rfl, rfl, rfl, by decide +kernel, rfl, by decide +kernel, by decide +kernel⟩
theorem ok_Recovery_take_own {P : Program} {w : World} {K : Frag} {mg : Str → Option Value} {base : Heap} (T : Txt K mg) : FnB P w K mg base 7 (mtA "Recovery" "take_own" K) (sp_Recovery_take_own K) := by
  refine okD (N := ["self", "entry", "log"]) (ps := ["self", "entry"]) (k := 6) (d := g_Recovery_take_own) T.d_Recovery_take_own rfl sc_Recovery_take_own (fun vs H Q E h => ?_) (fun _ _ _ _ _ _ us hl => match us, hl with | [_, _], _ => rfl) (fun A outer s H vs Q E hr h => ?_)
  · obtain ⟨H0, x, D, b, s0, Ad, N, v, m, n, ar, f, rws, chs, rfl, rc, b0, b1, N0, N1, he, q⟩ := h
    rfl
  · have hu := hr.hu
    obtain ⟨H0, x, D, b, s0, Ad, N, v, m, n, ar, f, rws, chs, rfl, rc, b0, b1, N0, N1, he, q⟩ := h
    refine ⟨_, PSs.nox ((pss_cons (ps_if (pt_cmp (pc_din hr.hu (pe_ix ix_tup (pv 1) pe_int (fun _ _ => rfl)) (pe_fld (pv 0) rfl)))
        (pss_one (ps_ret pe_bl))
        pss_nil)
      (pss_cons (ps_set (i := 2) sc_Recovery_take_own.nd rfl (Or.inl rfl) (pe_cF (ok_log_with (K := K) T) hr T.m_log_with passL (pa_cons (pe_fld (pv 0) rfl) (pa_cons (pe_ix ix_tup (pv 1) pe_int (fun _ _ => rfl)) (pa_cons (pe_callTy call_list_of (by rfl) T.b_list (by decide +kernel) (pa_cons (pe_ix ix_tup (pv 1) pe_int (fun _ _ => rfl)) pa_nil)) pa_nil)))))
      (pss_cons (ps_dput hr.hu (pe_fld (pv 0) rfl) (pe_ix ix_tup (pv 1) pe_int (fun _ _ => rfl)) (pe_tup (pa_cons (pe_ix ix_tup (pv 1) pe_int (fun _ _ => rfl)) (pa_cons (pe_callTy (call_dictFz rfl) (by rfl) T.b_dict (by decide +kernel) (pa_cons (pe_ix ix_tup (pv 1) pe_int (fun _ _ => rfl)) pa_nil)) (pa_cons (pv 2) pa_nil)))) rfl)
      (pss_one (ps_ret pe_bl)))))), ?_⟩
    obtain ⟨a, ar', dx, ra, ca, fs, f', rus, cus, rws', chs', rfl, hd, ha, m0, n1, f0, har, hfz, hrw, lrw, okr, hca, hch, lch, okc⟩ := en_own he
    cases hd
    have s0' := rc.base
    have ha1 := s0' _ _ ha
    obtain ⟨dx', hx⟩ := rc.ins
    obtain ⟨kvs, hD, hval, hint, hnd, lk⟩ := rc.dct
    walk_at "nm"
    refine ⟨_, rfl, ?_⟩
    dsimp only [tC]
    refine ixT (i := 2) (SqT.of ha1) (v := .int n) rfl ?_
    refine ⟨_, rfl, x, _, dx', _, _, rfl, hx, T.c_Recovery, T.n_Recovery_own_shards, (by walk_at "lk"), ?_⟩
    refine ⟨D, _, rfl, DGet.k (k := .inl n) hD, ⟨_, rfl, ?_⟩⟩
    rw [hval n]
    rcases q with ⟨hs, q⟩ | ⟨hn, q⟩
    · rw [Option.isSome_map, hs, if_pos rfl]
      exact q _ rc.base
    rw [hn, if_neg (by simp)]
    refine ⟨_, rfl, x, _, dx', _, _, rfl, hx, T.c_Recovery, T.n_Recovery_own_bound, (by walk_at "lk"), ?_⟩
    refine ixT (i := 4) (SqT.of ha1) (v := .int f) rfl ?_
    refine ixT (i := 6) (SqT.of ha1) (v := .ref ca) rfl ?_
    obtain ⟨as, rfl, hr0, hro, hrl, hrm⟩ := chs_rows hch okc
    refine ⟨ca, rfl, _, .inr (hca.same s0').sq, fun l nl => ?_⟩
    generalize hg : upd H l _ = G1
    have s1 := sameOf nl hg
    have e1 := atOf hg
    clear hg
    refine ⟨l, b, f, as, chsOf chs, rfl, e1, hr0.tk (.same (s0'.trans s1)), hro, by omega, b0, b1, hrm, fun G2 L C as' s2 nL nC lg => ?_⟩
    have k2 := s1.trans s2
    walk_at "nm"
    have hx2 := k2 _ _ hx
    have ha2 := k2 _ _ ha1
    have okall : rws.all rowOk = true := (Bool.and_eq_true_iff.mp okr).1
    obtain ⟨ps, kv, rfl, hps, lkv, rep⟩ := rws_pairs (paired_imp hrw fun _ _ _ g => g.same (s0'.trans k2)) okall
    refine ⟨_, rfl, ?_⟩
    dsimp only [tC]
    refine ixT (i := 3) (SqT.of ha2) (v := .ref ar) rfl ?_
    refine ⟨_, rfl, ?_⟩
    dsimp only [tC]
    refine ixT (i := 5) (SqT.of ha2) (v := .ref ra) rfl ?_
    refine ⟨ra, rfl, ps, hfz.same (s0'.trans k2), kv, hps, fun R nR => ?_⟩
    generalize hg : upd G2 R _ = G3
    have s3 := sameOf nR hg
    have e3 := atOf hg
    clear hg
    refine ⟨_, rfl, by show 3 ≤ _; rw [sizeLine_eq]; decide, fun t nt => ?_⟩
    generalize hg : upd G3 t _ = G4
    have s4 := sameOf nt hg
    have e4 := atOf hg
    clear hg
    have k34 := s3.trans s4
    have k4 := k2.trans k34
    have hx4 := k4 _ _ hx
    have ha4 := k4 _ _ ha1
    have hD4 := k4 _ _ hD
    refine ⟨_, rfl, x, _, dx', _, _, rfl, hx4, T.c_Recovery, T.n_Recovery_own_shards, (by walk_at "lk"), ?_⟩
    refine ⟨_, rfl, ?_⟩
    dsimp only [tC]
    refine ixT (i := 2) (SqT.of ha4) (v := .int n) rfl ⟨D, _, rfl, DPut.k (k := .inl n) hD4 (by rw [sizeLine_eq]; omega), ?_⟩
    have lenk : (mergeK [] kv).length ≤ kv.length := by
      have := mergeK_len (more := kv) (kvs := [])
      simpa using this
    have rep0 : Rep (mergeK [] kv) (ctOf rws) := rep [] _ Rep.nil
    refine q _ _ (rc.put (na := ⟨t, R, L, C⟩) hn k4 (k2.free nR) (s1.free nL) (s1.free nC) ⟨e4, ⟨_, s4 _ _ e3, rep0, by omega⟩, ⟨as', lg.same k34⟩, ?_⟩ fun kv' h' => ?_)
    · show (cutR b (chsOf chs)).length ≤ N
      unfold cutR
      rw [List.length_drop]
      omega
    · rw [hD] at h'
      cases h'
      rfl

def sp_Recovery_take_change (K : Frag) : Sp := fun vs H Q _ => ∃ (H0 : Hp) (x D : Addr) (b : Int) (s : RS) (A : Int → ShA) (N : Nat) (v : V) (m n : Int) (z : Str) (o w : Option Int) (h : Sh), vs = [.ref x, v] ∧ RecAt K H0 H x D b s A N ∧ 0 ≤ b ∧ b ≤ 1000 ∧ 1000 ≤ N ∧ N ≤ 4000 ∧ EnV K H0 v (some (.chg m n z o w)) ∧ s.sh n = some h ∧
  ((¬ (h.c z = o ∧ lastOf h.f h.rs < m) ∧ ∀ H', Same H0 H' → Q (.bl false) H') ∨ ((h.c z = o ∧ lastOf h.f h.rs < m) ∧ ∀ H', RecAt K H0 H' x D b ⟨s.mom, setS s.sh n (some ⟨h.ar, updC h.c z w, cutF b h.f (h.rs ++ [(m, z, o, w)]), cutR b (h.rs ++ [(m, z, o, w)])⟩)⟩ A (N + 1) → Q (.bl true) H'))
theorem sc_Recovery_take_change : FnScope ["self", "entry", "kind", "moment", "number", "key", "old", "new", "rows", "log"] ["self", "entry"] (defScope s_Recovery_take_change) := ⟨rfl, rfl, rfl, by decide +kernel, rfl, by decide +kernel, by decide +kernel⟩
theorem ok_Recovery_take_change {P : Program} {w : World} {K : Frag} {mg : Str → Option Value} {base : Heap} (T : Txt K mg) : FnB P w K mg base 5 (mtA "Recovery" "take_change" K) (sp_Recovery_take_change K) := by
  refine okD (N := ["self", "entry", "kind", "moment", "number", "key", "old", "new", "rows", "log"]) (ps := ["self", "entry"]) (k := 4) (d := g_Recovery_take_change) T.d_Recovery_take_change rfl sc_Recovery_take_change (fun vs H Q E h => ?_) (fun _ _ _ _ _ _ us hl => match us, hl with | [_, _], _ => rfl) (fun A outer s H vs Q E hr h => ?_)
  · obtain ⟨H0, x, D, b, s0, Ad, N, v, m, n, z, o, w, h, rfl, rc, b0, b1, N0, N1, he, hs, q⟩ := h
    rfl
  · have hu := hr.hu
    obtain ⟨H0, x, D, b, s0, Ad, N, v, m, n, z, o, w, h, rfl, rc, b0, b1, N0, N1, he, hs, q⟩ := h
    refine ⟨_, PSs.nox ((pss_cons (ps_asg (pv 1) (pg_tup (n := 6) (by rfl) (pgs_cons (pg_name (i := 2) sc_Recovery_take_change.nd rfl (Or.inl rfl)) (pgs_cons (pg_name (i := 3) sc_Recovery_take_change.nd rfl (Or.inl rfl)) (pgs_cons (pg_name (i := 4) sc_Recovery_take_change.nd rfl (Or.inl rfl)) (pgs_cons (pg_name (i := 5) sc_Recovery_take_change.nd rfl (Or.inl rfl)) (pgs_cons (pg_name (i := 6) sc_Recovery_take_change.nd rfl (Or.inl rfl)) (pgs_cons (pg_name (i := 7) sc_Recovery_take_change.nd rfl (Or.inl rfl)) pgs_nil))))))))
      (pss_cons (ps_par (i := 8) (j := 9) (by rfl) sc_Recovery_take_change.nd rfl rfl (by decide) rfl rfl (pa_cons (pe_ix ix_tup (pe_dget hr.hu (pe_fld (pv 0) rfl) (pv 4) (fun _ _ => rfl)) pe_int (fun _ _ => rfl)) (pa_cons (pe_ix ix_tup (pe_dget hr.hu (pe_fld (pv 0) rfl) (pv 4) (fun _ _ => rfl)) pe_int (fun _ _ => rfl)) pa_nil)) (by rfl))
      (pss_cons (ps_if (PW.pt (pw_or (pt_cmpR op_ne (pe_dget1 hr.hu (pv 8) (pv 5) ⟨rfl, rfl, rfl, rfl⟩) (pv 6) (nomark _)) (pw_or1 (pt_cmpR op_le (pv 3) (pe_mtF0 (pv 9) T.c_ChangeLog T.e_ChangeLog_last (ok_ChangeLog_last (K := K) T) hr passL) (nomark _)))))
        (pss_one (ps_ret pe_bl))
        pss_nil)
      (pss_cons (ps_expr (pe_mtF (pv 9) T.c_ChangeLog T.e_ChangeLog_add (ok_ChangeLog_add (K := K) T) hr passL (pa_cons (pv 3) (pa_cons (pv 5) (pa_cons (pv 6) (pa_cons (pv 7) pa_nil))))))
      (pss_cons (ps_if (pt_cmpR op_isN (pv 7) pe_non (nomark _))
        (pss_one (ps_expr (pe_dpop1 (pv 8) (pv 5) ⟨rfl, rfl, rfl, rfl⟩)))
        (pss_one (ps_dput hr.hu (pv 8) (pv 5) (pv 7) rfl)))
      (pss_one (ps_ret pe_bl)))))))), ?_⟩
    obtain ⟨a, rfl, ha, m0, n1, zs, zo, hi⟩ := en_chg he
    have ha1 := rc.base _ _ ha
    obtain ⟨dx, hx⟩ := rc.ins
    obtain ⟨kvs, hD, hval, hint, hnd, lk⟩ := rc.dct
    have shn := rc.sh n h hs
    obtain ⟨ht, ⟨kv, hR, rep, lkv⟩, ⟨as, lg⟩, few⟩ := id shn
    have gv : ∀ G, G D = some (.dK kvs) → DGet G D (.int n) (some (.ref (Ad n).t)) := fun G e => by
      have := DGet.k (k := .inl n) e
      rw [hval n, hs] at this
      exact this
    walk_at "nm"
    refine ⟨a, _, rfl, SqT.of ha1, rfl, _, _, rfl, _, _, rfl, _, _, rfl, _, _, rfl, _, _, rfl, _, _, rfl, rfl, ?_⟩
    simp only [List.set_cons_succ, List.set_cons_zero]
    obtain ⟨dxL, hL⟩ := lg.ins
    have hRL : (Ad n).R ≠ (Ad n).L := ne_of hR hL (fun z => by cases z)
    have hRC : (Ad n).R ≠ (Ad n).C := ne_of hR lg.lst (fun z => by cases z)
    refine seq_gen (fun σ' H' => σ' = [some (.ref x), some (.ref a), some (.str "change"), some (.int m), some (.int n), some (.str z), some (oV o), some (oV w), some (.ref (Ad n).R), some (.ref (Ad n).L)] ∧ H' = H) (fun N2 hN2 => ?_) ?_
    · walk_at "nm"
      refine ⟨_, rfl, x, _, dx, _, _, rfl, hx, T.c_Recovery, T.n_Recovery_own_shards, (by walk_at "lk"), _, rfl, D, _, rfl, gv _ hD, ?_⟩
      refine ixT (i := 1) (SqT.of ht) (v := .ref (Ad n).R) rfl ?_
      refine ⟨_, rfl, x, _, dx, _, _, rfl, hx, T.c_Recovery, T.n_Recovery_own_shards, (by walk_at "lk"), _, rfl, D, _, rfl, gv _ hD, ?_⟩
      refine ixT (i := 2) (SqT.of ht) (v := .ref (Ad n).L) rfl ?_
      exact ⟨_, _, ⟨rfl, rfl⟩, hN2 _ _ ⟨rfl, rfl⟩⟩
    rintro σ' H' ⟨rfl, he'⟩
    rw [he']
    clear he' H'
    refine seq_gen (fun σ' H' => σ' = [some (.ref x), some (.ref a), some (.str "change"), some (.int m), some (.int n), some (.str z), some (oV o), some (oV w), some (.ref (Ad n).R), some (.ref (Ad n).L)] ∧ Same H H' ∧ (h.c z = o ∧ lastOf h.f h.rs < m)) (fun N2 hN2 => ?_) ?_
    · walk_at "nm"
      have ev : (valV kv (.inr z)).getD .non = oV (h.c z) := by
        rw [rep.val]
        cases h.c z <;> rfl
      refine ⟨_, rfl, (Ad n).R, rfl, .inl ⟨_, .inl hR⟩, _, rfl, _, DGet.k (k := .inr z) hR, ?_⟩
      rw [ev]
      refine neO ⟨_, rfl, ?_⟩
      by_cases e : h.c z = o
      · rw [if_neg (by simp [e])]
        refine ⟨_, rfl, (Ad n).L, dxL, _, rfl, hL, (by rw [lookS (by decide +kernel), lookS (by decide +kernel), lookS (by decide +kernel)]; rfl), (Ad n).L, (Ad n).C, b, h.f, as, h.rs, rfl, lg, fun G1 s1 => ⟨_, rfl, ?_⟩⟩
        by_cases e2 : m ≤ lastOf h.f h.rs
        · rw [if_pos e2]
          rcases q with ⟨_, q⟩ | ⟨⟨_, z2⟩, _⟩
          · exact q _ (rc.base.trans s1)
          · omega
        · rw [if_neg e2]
          exact hN2 _ _ ⟨rfl, s1, e, by omega⟩
      · rw [if_pos (by simp [e])]
        rcases q with ⟨_, q⟩ | ⟨⟨z2, _⟩, _⟩
        · exact q _ rc.base
        · exact absurd z2 e
    rintro σ' H1 ⟨rfl, s1, ec, el⟩
    replace q := (q.resolve_left fun z2 => z2.1 ⟨ec, el⟩).2
    walk_at "nm"
    have lg1 := lg.same s1
    have hi2 := hi
    unfold isChg at hi2
    simp only [Bool.and_eq_true, Bool.or_eq_true] at hi2
    have hk : ∀ o : Option Int, ∃ ko, Is K H1 (oV o) ko := fun o => by
      cases o with
      | none => exact ⟨.non, .non⟩
      | some v => exact ⟨.int v, .int v⟩
    obtain ⟨ko, hko⟩ := hk o
    obtain ⟨kw, hkw⟩ := hk w
    refine ⟨_, rfl, (Ad n).L, dxL, _, rfl, s1 _ _ hL, (by rw [lookS (by decide +kernel), lookS (by decide +kernel), lookS (by decide +kernel)]; rfl), _, rfl, _, rfl, _, rfl, _, rfl, (Ad n).L, (Ad n).C, b, h.f, as, h.rs, .int m, .str z, oV o, oV w, .int m, .str z, ko, kw, rfl, lg1, b0, by omega, .int m, .str z, (show z.length ≤ 1000000 by omega), hko, hkw, .inr (.inr (.inr (.inr ⟨(m, z, o, w), decide_eq_true (by omega), hi2.2.1, rfl, rfl, rfl, rfl, fun G2 nn as2 hn lg2 ex2 tk2 => ?_⟩)))⟩
    have hR2 := ex2 _ _ hRL hRC (s1 _ _ hR)
    have fin : ∀ kv', Rep kv' (updC h.c z w) → kv'.length ≤ N + 1 → Q (.bl true) (upd G2 (Ad n).R (.dK kv')) := fun kv' rep' l' => by
      generalize hg : upd G2 (Ad n).R (.dK kv') = G3
      have x3 : Ex (Ad n).R G2 G3 := by
        rw [← hg]
        exact Ex.refl.upd
      have e3 := atOf hg
      clear hg
      refine q _ ((rc.same s1).chg hs (fun c o h1 h2 h3 hc => x3 _ _ h3 (ex2 _ _ h1 h2 hc)) ⟨x3 _ _ (ne_of (s1 _ _ ht) (s1 _ _ hR) (fun z => by cases z)) (tk2 _ _ (s1 _ _ ht)), ⟨kv', e3, rep', l'⟩, ⟨as2, ?_⟩, ?_⟩)
      · rw [hn] at lg2
        obtain ⟨⟨dx2, l1⟩, l2, l3, l4, l5⟩ := lg2
        exact ⟨⟨dx2, x3 _ _ hRL.symm l1⟩, x3 _ _ hRC.symm l2, l3.tk fun c xs hc => x3 _ _ (ne_of hc hR2 (fun z => by cases z)) hc, l4, l5⟩
      · show (cutR b (h.rs ++ [(m, z, o, w)])).length ≤ N + 1
        unfold cutR
        rw [List.length_drop, List.length_append, List.length_singleton]
        omega
    cases w with
    | none =>
      dsimp only
      rw [if_pos (show oV none = V.non from rfl)]
      obtain ⟨ov, rfl⟩ : ∃ ov, o = some ov := by
        cases o with
        | none => simp at hi2
        | some ov => exact ⟨ov, rfl⟩
      have l0 : (dropK kv (.inr z)).length ≤ kv.length := List.length_filter_le _ _
      refine ⟨_, rfl, (Ad n).R, rfl, .inl ⟨_, .inl hR2⟩, _, rfl, kv, .inr z, .int ov, hR2, rfl, by rw [rep.val, ec]; rfl, ?_⟩
      exact fin _ (rep.drop z) (by omega)
    | some wv =>
      dsimp only
      rw [if_neg (show ¬ (oV (some wv) = V.non) from fun z => by cases z)]
      have l0 : (putK kv (.inr z) (oV (some wv))).length ≤ kv.length + 1 := length_putK kv (.inr z) (.int wv)
      refine ⟨_, rfl, _, rfl, _, rfl, (Ad n).R, _, rfl, DPut.k (k := .inr z) hR2 (by rw [sizeLine_eq]; omega), ?_⟩
      exact fin _ (rep.put z wv) (by omega)

def sp_Recovery_take (K : Frag) : Sp := fun vs H Q _ => ∃ (H0 : Hp) (x D : Addr) (b : Int) (s : RS) (A : Int → ShA) (N : Nat) (v : V) (e : Option En), vs = [.ref x, v] ∧ RecAt K H0 H x D b s A N ∧ 0 ≤ b ∧ b ≤ 1000 ∧ 1000 ≤ N ∧ N ≤ 4000 ∧ EnV K H0 v e ∧
  (match stepE b s e with
   | none => ∀ H', Same H0 H' → Q (.bl false) H'
   | some s' => ∀ H' A', RecAt K H0 H' x D b s' A' (N + 1) → Q (.bl true) H')
theorem sc_Recovery_take : FnScope ["self", "entry"] ["self", "entry"] (defScope s_Recovery_take) := ⟨rfl, rfl, rfl, by decide +kernel, rfl, by decide +kernel, by decide +kernel⟩
theorem ok_Recovery_take {P : Program} {w : World} {K : Frag} {mg : Str → Option Value} {base : Heap} (T : Txt K mg) : FnB P w K mg base 8 (mtA "Recovery" "take" K) (sp_Recovery_take K) := by
  refine okD (N := ["self", "entry"]) (ps := ["self", "entry"]) (k := 7) (d := g_Recovery_take) T.d_Recovery_take rfl sc_Recovery_take (fun vs H Q E h => ?_) (fun _ _ _ _ _ _ us hl => match us, hl with | [_, _], _ => rfl) (fun A outer s H vs Q E hr h => ?_)
  · obtain ⟨H0, x, D, b, s0, Ad, N, v, e, rfl, rc, b0, b1, N0, N1, he, q⟩ := h
    rfl
  · have hu := hr.hu
    obtain ⟨H0, x, D, b, s0, Ad, N, v, e, rfl, rc, b0, b1, N0, N1, he, q⟩ := h
    refine ⟨_, PSs.nox ((pss_cons (ps_if (PW.pt (pw_or (pt_not (pt_val (pe_cF (ok_is_entry (K := K) T) hr T.m_is_entry passL (pa_cons (pv 1) pa_nil)))) (pw_or1 (pt_cmpR op_lt (pe_ix ix_tup (pv 1) pe_int (fun _ _ => rfl)) (pe_fld (pv 0) rfl) (nomark _)))))
        (pss_one (ps_ret pe_bl))
        pss_nil)
      (pss_cons (ps_fld (pv 0) (pe_ix ix_tup (pv 1) pe_int (fun _ _ => rfl)) rfl)
      (pss_cons (ps_if (pt_cmpR op_eq (pe_ix ix_tup (pv 1) pe_int (fun _ _ => rfl)) pe_str (nomark _))
        (pss_one (ps_ret (pe_mtF (pv 0) T.c_Recovery T.e_Recovery_take_own (ok_Recovery_take_own (K := K) T) hr passL (pa_cons (pv 1) pa_nil))))
        pss_nil)
      (pss_cons (ps_if (pt_cmp (pc_dnotin hr.hu (pe_ix ix_tup (pv 1) pe_int (fun _ _ => rfl)) (pe_fld (pv 0) rfl)))
        (pss_one (ps_ret pe_bl))
        pss_nil)
      (pss_cons (ps_if (pt_cmpR op_eq (pe_ix ix_tup (pv 1) pe_int (fun _ _ => rfl)) pe_str (nomark _))
        (pss_cons (ps_expr (pe_dpop1 (pe_fld (pv 0) rfl) (pe_ix ix_tup (pv 1) pe_int (fun _ _ => rfl)) ⟨rfl, rfl, rfl, rfl⟩))
        (pss_one (ps_ret pe_bl)))
        pss_nil)
      (pss_one (ps_ret (pe_mtF (pv 0) T.c_Recovery T.e_Recovery_take_change (ok_Recovery_take_change (K := K) T) hr passL (pa_cons (pv 1) pa_nil)))))))))), ?_⟩
    obtain ⟨dx, hx⟩ := rc.ins
    obtain ⟨kvs, hD, hval, hint, hnd, lk⟩ := rc.dct
    walk_at "nm"
    refine ⟨v, e, rfl, he.same rc.base, fun H1 s1 => ⟨_, rfl, ?_⟩⟩
    have rc1 := rc.same s1
    cases e with
    | none =>
      rw [if_pos (show (none : Option En).isSome = false from rfl)]
      exact q _ rc1.base
    | some e =>
      rw [if_neg (show ¬ (some e).isSome = false from fun z => by cases z)]
      cases e with
      | own m n d =>
        obtain ⟨ar, f, rws, chs⟩ := d
        obtain ⟨a, ar', dxa, ra, ca, fs, f', rus, cus, rws', chs', rfl, _, ha, _⟩ := en_own he
        have ha1 := rc1.base _ _ ha
        refine ixT (i := 1) (SqT.of ha1) (v := .int m) rfl ?_
        refine ⟨_, rfl, x, _, dx, _, _, rfl, s1 _ _ hx, T.c_Recovery, T.n_Recovery_own_moment, (by walk_at "lk"), _, rfl, _, rfl, ?_⟩
        by_cases lt : m < s0.mom
        · rw [if_pos lt]
          simp only [stepE, if_pos lt] at q
          exact q _ rc1.base
        rw [if_neg lt]
        simp only [stepE, if_neg lt] at q
        refine ⟨_, rfl, ?_⟩
        dsimp only [tC]
        refine ixT (i := 1) (SqT.of ha1) (v := .int m) rfl ?_
        refine ⟨_, rfl, x, _, dx, _, rfl, s1 _ _ hx, T.c_Recovery, T.n_Recovery_own_moment, (by simp), ?_⟩
        generalize hg : upd H1 x _ = H2
        have x2 : Ex x H1 H2 := by
          rw [← hg]
          exact Ex.refl.upd
        have hx2 : H2 x = some (.ins (ga K "Recovery") dx [("own_bound", .int b), ("own_moment", .int m), ("own_shards", .ref D)]) := by
          rw [← hg, upd_same]
          walk_at "pf"
        clear hg
        have rc2 := rc1.now x2 hx2
        have ha2 := rc2.base _ _ ha
        obtain ⟨kvs2, hD2, hval2, _⟩ := rc2.dct
        walk_at "nm"
        refine ixT (i := 0) (SqT.of ha2) (v := .str "own") rfl (eqYes ⟨_, rfl, ?_⟩)
        rw [if_pos rfl]
        refine ⟨_, rfl, x, dx, _, rfl, hx2, (by rw [lookS (by decide +kernel), lookS (by decide +kernel), lookS (by decide +kernel)]; rfl), _, rfl, H0, x, D, b, ⟨m, s0.sh⟩, Ad, N, .ref a, m, n, ar, f, rws, chs, rfl, rc2, b0, b1, N0, by omega, he, ?_⟩
        cases hs : s0.sh n with
        | some h =>
          simp only [hs] at q
          exact .inl ⟨rfl, fun H' s => q H' s⟩
        | none =>
          simp only [hs] at q
          exact .inr ⟨rfl, fun H' A' r => q H' A' r⟩
      | chg m n z o w =>
        obtain ⟨a, rfl, ha, _⟩ := en_chg he
        have ha1 := rc1.base _ _ ha
        refine ixT (i := 1) (SqT.of ha1) (v := .int m) rfl ?_
        refine ⟨_, rfl, x, _, dx, _, _, rfl, s1 _ _ hx, T.c_Recovery, T.n_Recovery_own_moment, (by walk_at "lk"), _, rfl, _, rfl, ?_⟩
        by_cases lt : m < s0.mom
        · rw [if_pos lt]
          simp only [stepE, if_pos lt] at q
          exact q _ rc1.base
        rw [if_neg lt]
        simp only [stepE, if_neg lt] at q
        refine ⟨_, rfl, ?_⟩
        dsimp only [tC]
        refine ixT (i := 1) (SqT.of ha1) (v := .int m) rfl ?_
        refine ⟨_, rfl, x, _, dx, _, rfl, s1 _ _ hx, T.c_Recovery, T.n_Recovery_own_moment, (by simp), ?_⟩
        generalize hg : upd H1 x _ = H2
        have x2 : Ex x H1 H2 := by
          rw [← hg]
          exact Ex.refl.upd
        have hx2 : H2 x = some (.ins (ga K "Recovery") dx [("own_bound", .int b), ("own_moment", .int m), ("own_shards", .ref D)]) := by
          rw [← hg, upd_same]
          walk_at "pf"
        clear hg
        have rc2 := rc1.now x2 hx2
        have ha2 := rc2.base _ _ ha
        obtain ⟨kvs2, hD2, hval2, _⟩ := rc2.dct
        walk_at "nm"
        refine ixT (i := 0) (SqT.of ha2) (v := .str "change") rfl (eqNo (by decide +kernel) ⟨_, rfl, ?_⟩)
        rw [if_neg (by decide)]
        refine ⟨_, rfl, ?_⟩
        dsimp only [tC]
        refine ixT (i := 2) (SqT.of ha2) (v := .int n) rfl ?_
        refine ⟨_, rfl, x, _, dx, _, _, rfl, hx2, T.c_Recovery, T.n_Recovery_own_shards, (by walk_at "lk"), ?_⟩
        refine ⟨D, _, rfl, DGet.k (k := .inl n) hD2, ⟨_, rfl, ?_⟩⟩
        rw [hval2 n]
        dsimp only
        cases hs : s0.sh n with
        | none =>
          rw [if_pos (show (!(Option.map (fun x => V.ref (Ad n).t) (none : Option Sh)).isSome) = true from rfl)]
          simp only [hs] at q
          exact q _ rc2.base
        | some h =>
          rw [if_neg (by simp)]
          simp only [hs] at q
          refine ixT (i := 0) (SqT.of ha2) (v := .str "change") rfl (eqNo (by decide +kernel) ⟨_, rfl, ?_⟩)
          rw [if_neg (by decide)]
          refine ⟨_, rfl, x, dx, _, rfl, hx2, (by rw [lookS (by decide +kernel), lookS (by decide +kernel), lookS (by decide +kernel)]; rfl), _, rfl, H0, x, D, b, ⟨m, s0.sh⟩, Ad, N, .ref a, m, n, z, o, w, h, rfl, rc2, b0, b1, N0, N1, he, hs, ?_⟩
          by_cases c : h.c z = o ∧ lastOf h.f h.rs < m
          · rw [if_pos c] at q
            exact .inr ⟨c, fun H' r => q H' Ad r⟩
          · rw [if_neg c] at q
            exact .inl ⟨c, fun H' s => q H' s⟩
      | drop m n =>
        obtain ⟨a, rfl, ha, _⟩ := en_drop he
        have ha1 := rc1.base _ _ ha
        refine ixT (i := 1) (SqT.of ha1) (v := .int m) rfl ?_
        refine ⟨_, rfl, x, _, dx, _, _, rfl, s1 _ _ hx, T.c_Recovery, T.n_Recovery_own_moment, (by walk_at "lk"), _, rfl, _, rfl, ?_⟩
        by_cases lt : m < s0.mom
        · rw [if_pos lt]
          simp only [stepE, if_pos lt] at q
          exact q _ rc1.base
        rw [if_neg lt]
        simp only [stepE, if_neg lt] at q
        refine ⟨_, rfl, ?_⟩
        dsimp only [tC]
        refine ixT (i := 1) (SqT.of ha1) (v := .int m) rfl ?_
        refine ⟨_, rfl, x, _, dx, _, rfl, s1 _ _ hx, T.c_Recovery, T.n_Recovery_own_moment, (by simp), ?_⟩
        generalize hg : upd H1 x _ = H2
        have x2 : Ex x H1 H2 := by
          rw [← hg]
          exact Ex.refl.upd
        have hx2 : H2 x = some (.ins (ga K "Recovery") dx [("own_bound", .int b), ("own_moment", .int m), ("own_shards", .ref D)]) := by
          rw [← hg, upd_same]
          walk_at "pf"
        clear hg
        have rc2 := rc1.now x2 hx2
        have ha2 := rc2.base _ _ ha
        obtain ⟨kvs2, hD2, hval2, _⟩ := rc2.dct
        walk_at "nm"
        refine ixT (i := 0) (SqT.of ha2) (v := .str "drop") rfl (eqNo (by decide +kernel) ⟨_, rfl, ?_⟩)
        rw [if_neg (by decide)]
        refine ⟨_, rfl, ?_⟩
        dsimp only [tC]
        refine ixT (i := 2) (SqT.of ha2) (v := .int n) rfl ?_
        refine ⟨_, rfl, x, _, dx, _, _, rfl, hx2, T.c_Recovery, T.n_Recovery_own_shards, (by walk_at "lk"), ?_⟩
        refine ⟨D, _, rfl, DGet.k (k := .inl n) hD2, ⟨_, rfl, ?_⟩⟩
        rw [hval2 n]
        dsimp only
        cases hs : s0.sh n with
        | none =>
          rw [if_pos (show (!(Option.map (fun x => V.ref (Ad n).t) (none : Option Sh)).isSome) = true from rfl)]
          simp only [hs] at q
          exact q _ rc2.base
        | some h =>
          rw [if_neg (by simp)]
          simp only [hs] at q
          refine ixT (i := 0) (SqT.of ha2) (v := .str "drop") rfl (eqYes ⟨_, rfl, ?_⟩)
          rw [if_pos rfl]
          refine ⟨_, rfl, x, _, dx, _, _, rfl, hx2, T.c_Recovery, T.n_Recovery_own_shards, (by walk_at "lk"), ?_⟩
          refine ⟨D, rfl, .inl ⟨_, .inl hD2⟩, ?_⟩
          refine ⟨_, rfl, ?_⟩
          dsimp only [tC]
          refine ixT (i := 2) (SqT.of ha2) (v := .int n) rfl ?_
          refine ⟨kvs2, .inl n, _, hD2, rfl, by rw [hval2, hs]; rfl, ?_⟩
          refine q _ Ad (RecAt.mono (rc2.gone fun kvs' h' => ?_) (Nat.le_succ _))
          rw [hD2] at h'
          cases h'
          rfl

theorem newRec {K : Frag} {σ : L2.St} {t : TA} {H : Hp} {b : Int} {Q : VK} {E : XK} (b0 : 0 ≤ b) (ht : ∀ Q' : List V → Hp → Prop, Q' [V.int b] H → t σ H Q')
    (q : ∀ G x D A, Same H G → H x = none → RecAt K H G x D b ⟨0, fun _ => none⟩ A 1000 → Q (.ref x) G) : tMake (ga K "Recovery") (sp_Recovery_init K) [] E t σ H Q := by
  refine ht _ ?_
  intro x dx nx ndx ne
  have s := same_made (o := .own x) (C := ga K "Recovery") (fs := []) nx ndx ne
  refine ⟨x, dx, b, rfl, upd_same, b0, fun G D hx hD ex nD => ⟨rfl, ?_⟩⟩
  have k := same_mk nx s ex
  exact q G x D (fun _ => ⟨0, 0, 0, 0⟩) k nx ⟨k, ⟨dx, hx⟩, ⟨[], hD, fun n => rfl, (fun p hp => nomatch hp), by simp, by simp⟩, (fun n h e => nomatch e), (fun n n' h h' e => nomatch e), (fun n h e => nomatch e), nx, s.free nD, fun n h e => nomatch e⟩
/-- the entries, one by one: where the first one stands that is not taken -/
def runE (b : Int) : RS → Nat → List (Option En) → Except Nat RS
  | s, _, [] => .ok s
  | s, i, e :: es => match stepE b s e with
    | none => .error i
    | some s' => runE b s' (i + 1) es
theorem runE_cons {b : Int} {s : RS} {i : Nat} {e : Option En} {es : List (Option En)} : runE b s i (e :: es) = match stepE b s e with
    | none => .error i
    | some s' => runE b s' (i + 1) es := rfl
theorem runE_nil {b : Int} {s : RS} {i : Nat} : runE b s i [] = .ok s := rfl
/-- no list -/
def NoL (K : Frag) (H : Hp) (x : V) : Prop := ∀ R : VK, R (.bl false) H → rIsi K [x, .ty "list"] H R
theorem NoL.of {K : Frag} {H : Hp} {x : V} {k : Kn} (h : Is K H x k) (e : k.isT "list" = false) : NoL K H x := fun R q => isi "list" h (by rw [e]; exact q)
theorem NoL.fz {K : Frag} {H : Hp} {a : Addr} {us : List V} (h : FzT H a us) : NoL K H (.ref a) := fun R q => by
  obtain ⟨o, _, _, e⟩ := h
  exact ⟨.ref a, .ty "list", _, _, false, rfl, .ty "list", .fTuple e, kit_ty (by decide +kernel), q⟩
/-- how recovered ends where it cannot succeed -/
def RecOut (K : Frag) (E : XK) (H : Hp) (x bv : V) : Prop := ∃ (kb : Kn), Is K H bv kb ∧
  ((NoL K H x ∧ Out1 K E H "InvalidEntries" "position" .non) ∨
   (∃ (l : Addr) (us : List V) (es : List (Option En)), x = .ref l ∧ H l = some (.lst us) ∧ Paired (EnV K H) us es ∧ us.length ≤ 100 ∧
     ((∃ i, runE 0 ⟨0, fun _ => none⟩ 0 es = .error i ∧ Out1 K E H "InvalidEntries" "position" (.int (i : Nat))) ∨
      ((∃ s, runE 0 ⟨0, fun _ => none⟩ 0 es = .ok s) ∧ kb.within 0 1000 = false ∧ Out1 K E H "InvalidNumber" "value" bv))))

def sp_recovered (K : Frag) : Sp := fun vs H Q E => ∃ (x bv : V), vs = [x, bv] ∧ RecOut K E H x bv
theorem sc_recovered : FnScope ["entries", "bound", "check", "recovery", "entry", "position"] ["entries", "bound"] (defScope s_recovered) := ⟨rfl, rfl, rfl, by decide +kernel, rfl, by decide +kernel, by decide +kernel⟩
theorem ok_recovered {P : Program} {w : World} {K : Frag} {mg : Str → Option Value} {base : Heap} (T : Txt K mg) : FnB P w K mg base 9 (glA "recovered" K) (sp_recovered K) := by
  refine okD (N := ["entries", "bound", "check", "recovery", "entry", "position"]) (ps := ["entries", "bound"]) (k := 8) (d := g_recovered) T.d_recovered rfl sc_recovered (fun vs H Q E h => ?_) (fun _ _ _ _ _ _ us hl => match us, hl with | [_, _], _ => rfl) (fun A outer s H vs Q E hr h => ?_)
  · obtain ⟨x, bv, rfl, kb, hb, q⟩ := h
    rfl
  · have hu := hr.hu
    obtain ⟨x, bv, rfl, kb, hb, q⟩ := h
    refine ⟨_, (pss_cons (ps_if (pt_not (pt_val (pe_callB call_isi (by rfl) T.b_isinstance (by decide +kernel) (pa_cons (pv 0) (pa_cons (pe_bltn (v := .ty "list") (u := .type "list") (by rfl) T.b_list (by decide +kernel) rfl) pa_nil)))))
        (pss_one (ps_raiseC rfl (takes_of rfl rfl rfl rfl) T.r_InvalidEntries (ok_InvalidEntries_init (K := K) T) hr (pa_cons pe_non pa_nil)))
        pss_nil)
      (pss_cons (ps_set (i := 2) sc_recovered.nd rfl (Or.inl rfl) (pe_mkF T.k_Recovery (ok_Recovery_init (K := K) T) hr T.m_Recovery passL (pa_cons pe_int pa_nil)))
      (pss_cons (ps_for (passes_of rfl) rfl (pi_enum (by rfl) T.b_enumerate (pa_cons (pv 0) pa_nil)) (pg_tup (n := 2) (by rfl) (pgs_cons (pg_name (i := 5) sc_recovered.nd rfl (Or.inl rfl)) (pgs_cons (pg_name (i := 4) sc_recovered.nd rfl (Or.inl rfl)) pgs_nil)))
        (pss_one (ps_if (pt_not (pt_val (pe_mtF (pv 2) T.c_Recovery T.e_Recovery_take (ok_Recovery_take (K := K) T) hr passL (pa_cons (pv 4) pa_nil))))
          (pss_one (ps_raiseC rfl (takes_of rfl rfl rfl rfl) T.r_InvalidEntries (ok_InvalidEntries_init (K := K) T) hr (pa_cons (pv 5) pa_nil)))
          pss_nil)))
      (pss_cons (ps_expr (pe_cF (ok_check_number (K := K) T) hr T.m_check_number (passes_call (takes_of rfl rfl rfl rfl) (fun _ _ _ _ h => h)) (pa_cons (pv 1) (pa_cons pe_int (pa_cons (pe_gc (by rfl) (gint T.v_MAX_BOUND)) pa_nil)))))
      (pss_cons ps_never
      (pss_cons ps_never
      (pss_one ps_never))))))), ?_⟩
    rcases q with ⟨h1, o⟩ | ⟨l, us, es, rfl, hl, hes, few, q⟩
    · walk_at "nm"
      refine h1 _ ⟨_, rfl, ?_⟩
      rw [if_pos rfl]
      exact o.mk fun Q' q' => q'
    walk_at "nm"
    refine isi "list" (.lst hl) ⟨_, rfl, ?_⟩
    rw [if_neg (show ¬ (Kn.lst l us).isT "list" = false from fun z => by cases z)]
    refine newRec (by omega) (fun Q' q' => q') fun G1 c D A0 s1 nc rc => ?_
    refine ⟨_, rfl, l, _, rfl, SqL.of (s1 _ _ hl), for_it walk_enum (fun j σ' H' => (∃ w1 w2 s A, σ' = [some (.ref l), some bv, some (.ref c), none, w1, w2] ∧ RecAt K H H' c D 0 s A (1000 + j) ∧ runE 0 ⟨0, fun _ => none⟩ 0 es = runE 0 s j (es.drop j))) ⟨_, _, _, _, rfl, rc, rfl⟩ (fun j σ' H' _ p => by obtain ⟨_, _, _, _, _, r, _⟩ := p; exact SqL.of (r.base _ _ hl)) ?_ ?_⟩
    · rintro j y σ' H2 H3 hj ⟨w1, w2, s, A, rfl, r2, ev⟩ ⟨tt, y1, y2, rfl, ht, rfl, e1, e2⟩
      cases e1
      have t3 := Same.upd (o := .tup [.int (j : Nat), y2]) (Same.refl _) ht
      refine ⟨tt, _, rfl, SqT.of upd_same, rfl, _, _, rfl, _, _, rfl, rfl, ?_⟩
      generalize upd H2 tt (.tup [.int (j : Nat), y2]) = G at t3 ⊢
      have r3 := r2.same t3
      obtain ⟨e, he, hev⟩ := LiI.paired_get hes e2
      obtain ⟨dx, hx3⟩ := r3.ins
      rw [drop_at he] at ev
      dsimp only [gName]
      simp only [List.set_cons_succ, List.set_cons_zero]
      walk_at "nm"
      refine ⟨_, rfl, c, dx, _, rfl, hx3, (by rw [lookS (by decide +kernel), lookS (by decide +kernel), lookS (by decide +kernel)]; rfl), _, rfl, H, c, D, 0, s, A, 1000 + j, y2, e, rfl, r3, by omega, by omega, by omega, by omega, hev, ?_⟩
      rw [runE_cons] at ev
      cases hst : stepE 0 s e with
      | none =>
        rw [hst] at ev
        intro H4 s4
        refine ⟨_, rfl, ?_⟩
        rw [if_pos rfl]
        rcases q with ⟨i, z, o⟩ | ⟨⟨s', z⟩, _⟩
        · rw [ev] at z
          cases z
          exact (o.same s4).mk fun Q' q' => ⟨_, rfl, q'⟩
        · rw [ev] at z
          cases z
      | some s' =>
        rw [hst] at ev
        intro H4 A4 r4
        refine ⟨_, rfl, ?_⟩
        rw [if_neg (by decide)]
        exact ⟨_, _, ⟨rfl, rfl⟩, s', A4, r4, ev⟩
    · rintro σ' H2 ⟨w1, w2, s, A, rfl, r2, ev⟩
      rw [hes.length, List.drop_length, runE_nil] at ev
      walk_at "nm"
      rcases q with ⟨i, z, o⟩ | ⟨_, hk, o⟩
      · rw [z] at ev
        cases ev
      · exact ⟨_, kb, _, _, rfl, hb.same r2.base, (fun z => by rw [hk] at z; cases z), fun _ => o.same r2.base⟩

def sp_is_recovered (K : Frag) : Sp := fun vs H Q E => ∃ (x bv v : V), vs = [x, bv, v] ∧ RecOut K E H x bv
theorem sc_is_recovered : FnScope ["entries", "bound", "value", "due", "row", "one"] ["entries", "bound", "value"] (defScope s_is_recovered) := ⟨rfl, rfl, rfl, by decide +kernel, rfl, by decide +kernel, by decide +kernel⟩
theorem ok_is_recovered {P : Program} {w : World} {K : Frag} {mg : Str → Option Value} {base : Heap} (T : Txt K mg) : FnB P w K mg base 10 (glA "is_recovered" K) (sp_is_recovered K) := by
  refine okD (N := ["entries", "bound", "value", "due", "row", "one"]) (ps := ["entries", "bound", "value"]) (k := 9) (d := g_is_recovered) T.d_is_recovered rfl sc_is_recovered (fun vs H Q E h => ?_) (fun _ _ _ _ _ _ us hl => match us, hl with | [_, _, _], _ => rfl) (fun A outer s H vs Q E hr h => ?_)
  · obtain ⟨x, bv, v, rfl, o⟩ := h
    rfl
  · have hu := hr.hu
    obtain ⟨x, bv, v, rfl, o⟩ := h
    refine ⟨_, (pss_cons (ps_set (i := 3) sc_is_recovered.nd rfl (Or.inl rfl) (pe_cF (ok_recovered (K := K) T) hr T.m_recovered (passes_call (takes_of rfl rfl rfl rfl) (fun _ _ _ _ h => h)) (pa_cons (pv 0) (pa_cons (pv 1) pa_nil))))
      (pss_cons ps_never
      (pss_one ps_never))), ?_⟩
    walk_at "nm"
    exact ⟨_, _, rfl, o⟩

/-- how recovered ends, for any way out: an error's word and its value -/
def sp__law_told (K : Frag) : Sp := fun vs H Q _ => ∃ (x bv : V) (kb : Kn), vs = [x, bv] ∧ (∀ H', Same H H' → Is K H' bv kb) ∧
 (((∀ H', Same H H' → NoL K H' x) ∧ ∀ G l a b, Same H G → G l = some (.lst [.ref a, .ref b]) → G a = some (.lst [.str "entries", .bl true, .non]) → G b = some (.lst [.str "entries", .bl true, .non]) → Q (.ref l) G) ∨
  (∃ (lx : Addr) (us : List V) (es : List (Option En)), x = .ref lx ∧ H lx = some (.lst us) ∧ Paired (EnV K H) us es ∧ us.length ≤ 100 ∧
    ((∃ i : Nat, runE 0 ⟨0, fun _ => none⟩ 0 es = .error i ∧ ∀ G l a b, Same H G → G l = some (.lst [.ref a, .ref b]) → G a = some (.lst [.str "entries", .bl true, .int (i : Int)]) → G b = some (.lst [.str "entries", .bl true, .int (i : Int)]) → Q (.ref l) G) ∨
     (∃ z : Str, (∃ s, runE 0 ⟨0, fun _ => none⟩ 0 es = .ok s) ∧ kb.within 0 1000 = false ∧ (∀ H', Same H H' → Rp K H' bv z) ∧ ∀ G l a b, Same H G → G l = some (.lst [.ref a, .ref b]) → G a = some (.lst [.str "number", .str z]) → G b = some (.lst [.str "number", .str z]) → Q (.ref l) G))))
theorem sc__law_told : FnScope ["_law_entries_here", "_law_bound", "_law_found", "e"] ["_law_entries_here", "_law_bound"] (defScope s__law_told) := ⟨rfl, rfl, rfl, by decide +kernel, rfl, by decide +kernel, by decide +kernel⟩
theorem ok__law_told {P : Program} {w : World} {K : Frag} {mg : Str → Option Value} {base : Heap} (T : Txt K mg) : FnB P w K mg base 11 (glA "_law_told" K) (sp__law_told K) := by
  refine okD (N := ["_law_entries_here", "_law_bound", "_law_found", "e"]) (ps := ["_law_entries_here", "_law_bound"]) (k := 10) (d := g__law_told) T.d__law_told rfl sc__law_told (fun vs H Q E h => ?_) (fun _ _ _ _ _ _ us hl => match us, hl with | [_, _], _ => rfl) (fun A outer s H vs Q E hr h => ?_)
  · obtain ⟨x, bv, kb, rfl, hk, q⟩ := h
    rfl
  · have hu := hr.hu
    obtain ⟨x, bv, kb, rfl, hk, q⟩ := h
    refine ⟨_, PSs.nox ((pss_cons (ps_set (i := 2) sc__law_told.nd rfl (Or.inl rfl) (pe_lst pa_nil))
      (pss_cons (ps_tryA rfl rfl sc__law_told.nd takes_none (fun W pn xe tk _ => pss_one (ps_expr (pe_cFW (ok_recovered (K := K) T) hr T.m_recovered tk (pa_cons (pv 0) (pa_cons (pv 1) pa_nil)))))
      (HdA.cons (k := ⟨.ref (ga K "InvalidEntries"), 3, fun a cls d => tDrop (tBM K "list" _ (tVar 2) (tCons (tLst (tCons (tC (.str "entries")) (tCons (tCB (rIsX K a cls d) (tCons (tVar 3) (tCons (tC (.ty "ValueError")) tNil))) (tCons (tXf a cls d (ga K "InvalidEntries") "position" (tVar 3)) tNil)))) tNil))⟩) ⟨rfl, rfl, .inl T.m_InvalidEntries⟩ rfl rfl (fun a oe cls d pn hz hf => (pss_one (ps_expr (pe_bm PySem.F.plainAttrs_list PySem.F.slot_list_append PySem.F.type_list_append mt_append (pv 2) (pa_cons (pe_lst (pa_cons pe_str (pa_cons (pe_callB (call_isX hz hf) (by rfl) T.b_isinstance (by decide +kernel) (pa_cons (pv 3) (pa_cons (pe_bltn (v := .ty "ValueError") (u := .type "ValueError") (by rfl) T.b_ValueError (by decide +kernel) rfl) pa_nil))) (pa_cons (pe_xf T.xf_InvalidEntries T.xn_InvalidEntries_position hz hf (pv 3)) pa_nil)))) pa_nil)))))
      (HdA.cons (k := ⟨.ref (ga K "InvalidNumber"), 3, fun a cls d => tDrop (tBM K "list" _ (tVar 2) (tCons (tLst (tCons (tC (.str "number")) (tCons (tCB (rReprV K) (tCons (tXf a cls d (ga K "InvalidNumber") "value" (tVar 3)) tNil)) tNil))) tNil))⟩) ⟨rfl, rfl, .inl T.m_InvalidNumber⟩ rfl rfl (fun a oe cls d pn hz hf => (pss_one (ps_expr (pe_bm PySem.F.plainAttrs_list PySem.F.slot_list_append PySem.F.type_list_append mt_append (pv 2) (pa_cons (pe_lst (pa_cons pe_str (pa_cons (pe_callB (call_reprVX hz (by have z := hr.g; exact z) (by have z := hu99 hr; exact z)) (by rfl) T.b_repr (by decide +kernel) (pa_cons (pe_xf T.xf_InvalidNumber T.xn_InvalidNumber_value hz hf (pv 3)) pa_nil)) pa_nil))) pa_nil)))))
      HdA.nil)))
      (pss_cons (ps_tryA rfl rfl sc__law_told.nd takes_none (fun W pn xe tk _ => pss_one (ps_expr (pe_cFW (ok_is_recovered (K := K) T) hr T.m_is_recovered tk (pa_cons (pv 0) (pa_cons (pv 1) (pa_cons pe_non pa_nil))))))
      (HdA.cons (k := ⟨.ref (ga K "InvalidEntries"), 3, fun a cls d => tDrop (tBM K "list" _ (tVar 2) (tCons (tLst (tCons (tC (.str "entries")) (tCons (tCB (rIsX K a cls d) (tCons (tVar 3) (tCons (tC (.ty "ValueError")) tNil))) (tCons (tXf a cls d (ga K "InvalidEntries") "position" (tVar 3)) tNil)))) tNil))⟩) ⟨rfl, rfl, .inl T.m_InvalidEntries⟩ rfl rfl (fun a oe cls d pn hz hf => (pss_one (ps_expr (pe_bm PySem.F.plainAttrs_list PySem.F.slot_list_append PySem.F.type_list_append mt_append (pv 2) (pa_cons (pe_lst (pa_cons pe_str (pa_cons (pe_callB (call_isX hz hf) (by rfl) T.b_isinstance (by decide +kernel) (pa_cons (pv 3) (pa_cons (pe_bltn (v := .ty "ValueError") (u := .type "ValueError") (by rfl) T.b_ValueError (by decide +kernel) rfl) pa_nil))) (pa_cons (pe_xf T.xf_InvalidEntries T.xn_InvalidEntries_position hz hf (pv 3)) pa_nil)))) pa_nil)))))
      (HdA.cons (k := ⟨.ref (ga K "InvalidNumber"), 3, fun a cls d => tDrop (tBM K "list" _ (tVar 2) (tCons (tLst (tCons (tC (.str "number")) (tCons (tCB (rReprV K) (tCons (tXf a cls d (ga K "InvalidNumber") "value" (tVar 3)) tNil)) tNil))) tNil))⟩) ⟨rfl, rfl, .inl T.m_InvalidNumber⟩ rfl rfl (fun a oe cls d pn hz hf => (pss_one (ps_expr (pe_bm PySem.F.plainAttrs_list PySem.F.slot_list_append PySem.F.type_list_append mt_append (pv 2) (pa_cons (pe_lst (pa_cons pe_str (pa_cons (pe_callB (call_reprVX hz (by have z := hr.g; exact z) (by have z := hu99 hr; exact z)) (by rfl) T.b_repr (by decide +kernel) (pa_cons (pe_xf T.xf_InvalidNumber T.xn_InvalidNumber_value hz hf (pv 3)) pa_nil)) pa_nil))) pa_nil)))))
      HdA.nil)))
      (pss_one (ps_ret (pv 2))))))), ?_⟩
    have k0 := hk H (Same.refl _)
    -- one call that ends in an error, which the suite notes
    have one : ∀ (G : Hp) (E1 : XK), Same H G → 
       (((∀ H', Same H H' → NoL K H' x) ∧ Out1 K E1 G "InvalidEntries" "position" .non) ∨
        (∃ (lx : Addr) (us : List V) (es : List (Option En)), x = .ref lx ∧ H lx = some (.lst us) ∧ Paired (EnV K H) us es ∧ us.length ≤ 100 ∧
         ((∃ i : Nat, runE 0 ⟨0, fun _ => none⟩ 0 es = .error i ∧ Out1 K E1 G "InvalidEntries" "position" (.int (i : Nat))) ∨
          ((∃ s, runE 0 ⟨0, fun _ => none⟩ 0 es = .ok s) ∧ kb.within 0 1000 = false ∧ Out1 K E1 G "InvalidNumber" "value" bv)))) → RecOut K E1 G x bv := fun G E1 s h => by
      refine ⟨kb, hk G s, ?_⟩
      rcases h with h | ⟨lx, us, es, rfl, hl, hes, few, h⟩
      · exact .inl ⟨h.1 G s, h.2⟩
      · exact .inr ⟨lx, us, es, rfl, s _ _ hl, paired_imp hes fun _ _ _ g => g.same s, few, h⟩
    walk_at "nm"
    refine ⟨by rw [sizeLine_eq]; decide, fun p np => ?_⟩
    generalize hg : upd H p _ = G0
    have s0 := sameOf np hg
    have h0 := atOf hg
    clear hg
    rcases q with ⟨h1, q⟩ | ⟨lx, us, es, rfl, hl, hes, few, ⟨i, hr, q⟩ | ⟨z, hr, hkb, hz, q⟩⟩
    · refine ⟨_, rfl, _, rfl, x, bv, rfl, one G0 _ s0 (.inl ⟨h1, fun E1 d1 s1a hd1 hlen => ⟨true, T.em_InvalidEntries_InvalidEntries, fun _ ae hae => ?_, fun z => by cases z⟩⟩)⟩
      have hp1 := s1a _ _ h0
      have kk1 : Same H E1 := s0.trans s1a
      refine ⟨_, rfl, isList hp1, ?_⟩
      walk_at "nm"
      refine ⟨_, d1, _, _, _, _, rfl, rfl, hd1, T.xc_InvalidEntries, rfl, .ty "ValueError", T.xk_InvalidEntries, ?_⟩
      refine ⟨_, rfl, rfl, rfl, d1, _, _, rfl, hd1, (by walk_at "lk"), ?_⟩
      refine ⟨by rw [sizeLine_eq]; decide, fun a1 na1 => ?_⟩
      generalize hg : upd E1 a1 _ = F1
      have t1 := sameOf na1 hg
      have f1 := atOf hg
      clear hg
      have hq1 := t1 _ _ hp1
      refine ⟨p, _, _, rfl, rfl, hq1, (by rw [sizeLine_eq]; simp), ?_⟩
      generalize hg : upd F1 p _ = P1
      have x1 : Ex p F1 P1 := by
        rw [← hg]
        exact Ex.refl.upd
      have e4 := atOf hg
      clear hg
      have m1 : Same H P1 := fun c o h => x1 _ _ (ne_of_none h np) (t1 _ _ (kk1 _ _ h))
      dsimp only [goneD]
      refine ⟨_, rfl, _, rfl, x, bv, .non, rfl, one P1 _ m1 (.inl ⟨h1, fun E2 d2 s2a hd2 hlen => ⟨true, T.em_InvalidEntries_InvalidEntries, fun _ ae hae => ?_, fun z => by cases z⟩⟩)⟩
      have hp2 := s2a _ _ e4
      have kk2 : Same H E2 := m1.trans s2a
      refine ⟨_, rfl, isList hp2, ?_⟩
      walk_at "nm"
      refine ⟨_, d2, _, _, _, _, rfl, rfl, hd2, T.xc_InvalidEntries, rfl, .ty "ValueError", T.xk_InvalidEntries, ?_⟩
      refine ⟨_, rfl, rfl, rfl, d2, _, _, rfl, hd2, (by walk_at "lk"), ?_⟩
      refine ⟨by rw [sizeLine_eq]; decide, fun a2 na2 => ?_⟩
      generalize hg : upd E2 a2 _ = F2
      have t2 := sameOf na2 hg
      have f2 := atOf hg
      clear hg
      have hq2 := t2 _ _ hp2
      refine ⟨p, _, _, rfl, rfl, hq2, (by rw [sizeLine_eq]; simp), ?_⟩
      generalize hg : upd F2 p _ = P2
      have x2 : Ex p F2 P2 := by
        rw [← hg]
        exact Ex.refl.upd
      have e9 := atOf hg
      clear hg
      have m2 : Same H P2 := fun c o h => x2 _ _ (ne_of_none h np) (t2 _ _ (kk2 _ _ h))
      have b1 : E1 p = some (.lst []) := hp1
      have n1p : a1 ≠ p := fun z => by rw [z, hp1] at na1; cases na1
      have n2p : a2 ≠ p := fun z => by rw [z, hp2] at na2; cases na2
      exact ⟨_, rfl, q _ _ _ _ m2 e9 (x2 _ _ n1p (t2 _ _ (s2a _ _ (x1 _ _ n1p f1)))) (x2 _ _ n2p f2)⟩
    · refine ⟨_, rfl, _, rfl, (.ref lx), bv, rfl, one G0 _ s0 (.inr ⟨lx, us, es, rfl, hl, hes, few, .inl ⟨i, hr, fun E1 d1 s1a hd1 hlen => ⟨true, T.em_InvalidEntries_InvalidEntries, fun _ ae hae => ?_, fun z => by cases z⟩⟩⟩)⟩
      have hp1 := s1a _ _ h0
      have kk1 : Same H E1 := s0.trans s1a
      refine ⟨_, rfl, isList hp1, ?_⟩
      walk_at "nm"
      refine ⟨_, d1, _, _, _, _, rfl, rfl, hd1, T.xc_InvalidEntries, rfl, .ty "ValueError", T.xk_InvalidEntries, ?_⟩
      refine ⟨_, rfl, rfl, rfl, d1, _, _, rfl, hd1, (by walk_at "lk"), ?_⟩
      refine ⟨by rw [sizeLine_eq]; decide, fun a1 na1 => ?_⟩
      generalize hg : upd E1 a1 _ = F1
      have t1 := sameOf na1 hg
      have f1 := atOf hg
      clear hg
      have hq1 := t1 _ _ hp1
      refine ⟨p, _, _, rfl, rfl, hq1, (by rw [sizeLine_eq]; simp), ?_⟩
      generalize hg : upd F1 p _ = P1
      have x1 : Ex p F1 P1 := by
        rw [← hg]
        exact Ex.refl.upd
      have e4 := atOf hg
      clear hg
      have m1 : Same H P1 := fun c o h => x1 _ _ (ne_of_none h np) (t1 _ _ (kk1 _ _ h))
      dsimp only [goneD]
      refine ⟨_, rfl, _, rfl, (.ref lx), bv, .non, rfl, one P1 _ m1 (.inr ⟨lx, us, es, rfl, hl, hes, few, .inl ⟨i, hr, fun E2 d2 s2a hd2 hlen => ⟨true, T.em_InvalidEntries_InvalidEntries, fun _ ae hae => ?_, fun z => by cases z⟩⟩⟩)⟩
      have hp2 := s2a _ _ e4
      have kk2 : Same H E2 := m1.trans s2a
      refine ⟨_, rfl, isList hp2, ?_⟩
      walk_at "nm"
      refine ⟨_, d2, _, _, _, _, rfl, rfl, hd2, T.xc_InvalidEntries, rfl, .ty "ValueError", T.xk_InvalidEntries, ?_⟩
      refine ⟨_, rfl, rfl, rfl, d2, _, _, rfl, hd2, (by walk_at "lk"), ?_⟩
      refine ⟨by rw [sizeLine_eq]; decide, fun a2 na2 => ?_⟩
      generalize hg : upd E2 a2 _ = F2
      have t2 := sameOf na2 hg
      have f2 := atOf hg
      clear hg
      have hq2 := t2 _ _ hp2
      refine ⟨p, _, _, rfl, rfl, hq2, (by rw [sizeLine_eq]; simp), ?_⟩
      generalize hg : upd F2 p _ = P2
      have x2 : Ex p F2 P2 := by
        rw [← hg]
        exact Ex.refl.upd
      have e9 := atOf hg
      clear hg
      have m2 : Same H P2 := fun c o h => x2 _ _ (ne_of_none h np) (t2 _ _ (kk2 _ _ h))
      have b1 : E1 p = some (.lst []) := hp1
      have n1p : a1 ≠ p := fun z => by rw [z, hp1] at na1; cases na1
      have n2p : a2 ≠ p := fun z => by rw [z, hp2] at na2; cases na2
      exact ⟨_, rfl, q _ _ _ _ m2 e9 (x2 _ _ n1p (t2 _ _ (s2a _ _ (x1 _ _ n1p f1)))) (x2 _ _ n2p f2)⟩
    · refine ⟨_, rfl, _, rfl, (.ref lx), bv, rfl, one G0 _ s0 (.inr ⟨lx, us, es, rfl, hl, hes, few, .inr ⟨hr, hkb, fun E1 d1 s1a hd1 hlen => ⟨false, T.em_InvalidNumber_InvalidEntries, (fun z => by cases z), fun _ => ⟨true, T.em_InvalidNumber_InvalidNumber, fun _ ae hae => ?_, fun z => by cases z⟩⟩⟩⟩)⟩
      have hp1 := s1a _ _ h0
      have kk1 : Same H E1 := s0.trans s1a
      refine ⟨_, rfl, isList hp1, ?_⟩
      walk_at "nm"
      refine ⟨_, rfl, rfl, rfl, d1, _, _, rfl, hd1, (by walk_at "lk"), ?_⟩
      refine ⟨_, z, rfl, hz _ kk1, ?_⟩
      refine ⟨by rw [sizeLine_eq]; decide, fun a1 na1 => ?_⟩
      generalize hg : upd E1 a1 _ = F1
      have t1 := sameOf na1 hg
      have f1 := atOf hg
      clear hg
      have hq1 := t1 _ _ hp1
      refine ⟨p, _, _, rfl, rfl, hq1, (by rw [sizeLine_eq]; simp), ?_⟩
      generalize hg : upd F1 p _ = P1
      have x1 : Ex p F1 P1 := by
        rw [← hg]
        exact Ex.refl.upd
      have e4 := atOf hg
      clear hg
      have m1 : Same H P1 := fun c o h => x1 _ _ (ne_of_none h np) (t1 _ _ (kk1 _ _ h))
      dsimp only [goneD]
      refine ⟨_, rfl, _, rfl, (.ref lx), bv, .non, rfl, one P1 _ m1 (.inr ⟨lx, us, es, rfl, hl, hes, few, .inr ⟨hr, hkb, fun E2 d2 s2a hd2 hlen => ⟨false, T.em_InvalidNumber_InvalidEntries, (fun z => by cases z), fun _ => ⟨true, T.em_InvalidNumber_InvalidNumber, fun _ ae hae => ?_, fun z => by cases z⟩⟩⟩⟩)⟩
      have hp2 := s2a _ _ e4
      have kk2 : Same H E2 := m1.trans s2a
      refine ⟨_, rfl, isList hp2, ?_⟩
      walk_at "nm"
      refine ⟨_, rfl, rfl, rfl, d2, _, _, rfl, hd2, (by walk_at "lk"), ?_⟩
      refine ⟨_, z, rfl, hz _ kk2, ?_⟩
      refine ⟨by rw [sizeLine_eq]; decide, fun a2 na2 => ?_⟩
      generalize hg : upd E2 a2 _ = F2
      have t2 := sameOf na2 hg
      have f2 := atOf hg
      clear hg
      have hq2 := t2 _ _ hp2
      refine ⟨p, _, _, rfl, rfl, hq2, (by rw [sizeLine_eq]; simp), ?_⟩
      generalize hg : upd F2 p _ = P2
      have x2 : Ex p F2 P2 := by
        rw [← hg]
        exact Ex.refl.upd
      have e9 := atOf hg
      clear hg
      have m2 : Same H P2 := fun c o h => x2 _ _ (ne_of_none h np) (t2 _ _ (kk2 _ _ h))
      have b1 : E1 p = some (.lst []) := hp1
      have n1p : a1 ≠ p := fun z => by rw [z, hp1] at na1; cases na1
      have n2p : a2 ≠ p := fun z => by rw [z, hp2] at na2; cases na2
      exact ⟨_, rfl, q _ _ _ _ m2 e9 (x2 _ _ n1p (t2 _ _ (s2a _ _ (x1 _ _ n1p f1)))) (x2 _ _ n2p f2)⟩

/-! a journal as the law makes it -/
/-- all but lists and dicts stay -/
def Kp (H H' : Hp) : Prop := ∀ b o, H b = some o → (∀ xs, o ≠ .lst xs) → (∀ kvs, o ≠ .dK kvs) → H' b = some o
theorem Kp.of {H H' : Hp} (s : Same H H') : Kp H H' := fun b o h _ _ => s b o h
theorem Kp.trans {H H1 H2 : Hp} (a : Kp H H1) (b : Kp H1 H2) : Kp H H2 := fun c o h l d => b c o (a c o h l d) l d
theorem Kp.exL {a : Addr} {H H' : Hp} {xs : List V} (x : Ex a H H') (h : H a = some (.lst xs)) : Kp H H' := fun b o hb l d => x b o (fun z => by subst z; rw [h] at hb; cases hb; exact l _ rfl) hb
theorem Kp.exD {a : Addr} {H H' : Hp} {kvs : List (Key × V)} (x : Ex a H H') (h : H a = some (.dK kvs)) : Kp H H' := fun b o hb l d => x b o (fun z => by subst z; rw [h] at hb; cases hb; exact d _ rfl) hb
theorem Kp.exP {a : Addr} {H H' : Hp} (x : Ex a H H') (h : PoolAt H a) : Kp H H' := by
  obtain ⟨i, j, e⟩ := h
  exact Kp.exL x e
theorem _root_.Ah.FzT.kp {H H' : Hp} {a : Addr} {xs : List V} (h : FzT H a xs) (k : Kp H H') : FzT H' a xs := by
  obtain ⟨o, c, d, e⟩ := h
  exact ⟨o, c, d, k _ _ e (fun _ z => by cases z) (fun _ z => by cases z)⟩
theorem TpV.kp {H H' : Hp} {a : Addr} {xs : List V} (h : TpV H a xs) (k : Kp H H') : TpV H' a xs := by
  rcases h with h | h
  · exact .inl (k _ _ h (fun _ z => by cases z) (fun _ z => by cases z))
  · exact .inr (h.kp k)
theorem rws_kp {K : Frag} {H H' : Hp} (k : Kp H H') : ∀ {us : List V} {rws : List (Option (Str × Int))}, Paired (RwV K H) us rws → rws.all rowOk = true → Paired (RwV K H') us rws
  | _, _, .nil, _ => .nil
  | u :: us, c :: rws, .cons h t, ok => by
    rw [List.all_cons] at ok
    have ok := Bool.and_eq_true_iff.mp ok
    refine .cons ?_ (rws_kp k t ok.2)
    cases h with
    | row e hs => exact .row (k _ _ e (fun _ z => by cases z) (fun _ z => by cases z)) hs
    | no _ _ => cases ok.1
    | val _ _ _ _ => cases ok.1
theorem chs_kp {K : Frag} {H H' : Hp} (k : Kp H H') : ∀ {us : List V} {chs : List (Option LRow)} {l : Int}, Paired (ChV K H) us chs → chsOk l chs = true → Paired (ChV K H') us chs
  | _, _, _, .nil, _ => .nil
  | u :: us, c :: chs, l, .cons h t, ok => by
    unfold chsOk at ok
    have ok := Bool.and_eq_true_iff.mp ok
    refine .cons ?_ (chs_kp k t ok.2)
    cases h with
    | row e hs ho => exact .row (k _ _ e (fun _ z => by cases z) (fun _ z => by cases z)) hs ho
    | no _ _ => cases ok.1
    | len _ _ _ => cases ok.1
    | odd0 _ _ _ => cases ok.1
    | odd3 _ _ _ _ _ => cases ok.1
theorem en_kp {K : Frag} {H H' : Hp} {v : V} {e : En} (h : EnV K H v (some e)) (k : Kp H H') : EnV K H' v (some e) := by
  cases e with
  | own m n d =>
    obtain ⟨a, ar, dx, ra, ca, fs, f, rus, cus, rws, chs, rfl, rfl, ea, m0, n1, f0, har, hr, pr, fr, okr, hc, pc, fc, okc⟩ := en_own h
    have okr' : rws.all rowOk = true := by
      unfold rwsOkO at okr
      exact (Bool.and_eq_true_iff.mp okr).1
    have e0 : ownD ar f (some rws) (some chs) = some (ar, f, rws, chs) := by
      unfold ownD
      rw [show (rwsOkO (some rws) && chsOkO f (some chs)) = true from Bool.and_eq_true_iff.mpr ⟨okr, okc⟩]
      rfl
    have ea' := k _ _ ea (fun _ z => by cases z) (fun _ z => by cases z)
    have har' := k _ _ har (fun _ z => by cases z) (fun _ z => by cases z)
    have o : OwnV K H' (.ref a) (ownD ar f (some rws) (some chs)) := .own ea' har' f0 (.tup (.inr (hr.kp k)) (rws_kp k pr okr') fr) (.tup (hc.kp k) (chs_kp k pc okc) fc) fun _ _ => ⟨ra, _, rfl, hr.kp k⟩
    rw [e0] at o
    exact .own ea' (by simp) m0 n1 o
  | chg m n z o w =>
    obtain ⟨a, rfl, ea, m0, n1, hs, ho, ok⟩ := en_chg h
    have := EnV.chg (K := K) (k _ _ ea (fun _ z => by cases z) (fun _ z => by cases z)) m0 n1 hs ho
    rw [if_pos ok] at this
    exact this
  | drop m n =>
    obtain ⟨a, rfl, ea, m0, n1⟩ := en_drop h
    exact .drop (k _ _ ea (fun _ z => by cases z) (fun _ z => by cases z)) m0 n1
theorem ens_kp {K : Frag} {H H' : Hp} (k : Kp H H') : ∀ {us : List V} {es : List En}, Paired (EnV K H) us (es.map some) → Paired (EnV K H') us (es.map some)
  | [], [], _ => .nil
  | u :: us, e :: es, .cons h t => .cons (en_kp h k) (ens_kp k t)
theorem runE_app {b : Int} : ∀ {l m : List (Option En)} {s s' : RS} {i : Nat}, runE b s i l = .ok s' → runE b s i (l ++ m) = runE b s' (i + l.length) m
  | [], m, s, s', i, h => by
    cases h
    rfl
  | e :: l, m, s, s', i, h => by
    rw [runE_cons] at h
    show runE b s i (e :: (l ++ m)) = _
    rw [runE_cons]
    cases hs : stepE b s e with
    | none =>
      rw [hs] at h
      cases h
    | some s1 =>
      rw [hs] at h
      have := runE_app (m := m) h
      simp only
      rw [this, List.length_cons]
      congr 1
      omega
def abcd : List Str := ["a", "b", "c", "d"]
structure RsOk (s : RS) : Prop where
  num : ∀ n h, s.sh n = some h → n = 1 ∨ n = 2
  last : ∀ n h, s.sh n = some h → lastOf h.f h.rs ≤ s.mom
  key : ∀ n h z, s.sh n = some h → h.c z ≠ none → z ∈ abcd
  mom : 0 ≤ s.mom
/-- a journal that the law made: its entries lie in F, s is where they lead -/
structure JrAt (K : Frag) (H : Hp) (F : Addr) (us : List V) (es : List En) (s : RS) : Prop where
  lst : H F = some (.lst us)
  en : Paired (EnV K H) us (es.map some)
  run : runE 0 ⟨0, fun _ => none⟩ 0 (es.map some) = .ok s
  ok : RsOk s
  own : ∀ m n d, En.own m n d ∈ es → d.2.2.2.length ≤ 1
theorem JrAt.same {K : Frag} {H H' : Hp} {F : Addr} {us : List V} {es : List En} {s : RS} (h : JrAt K H F us es s) (k : Same H H') : JrAt K H' F us es s := ⟨k _ _ h.lst, ens_kp (.of k) h.en, h.run, h.ok, h.own⟩
theorem JrAt.kp {K : Frag} {H H' : Hp} {F : Addr} {us : List V} {es : List En} {s : RS} (h : JrAt K H F us es s) (k : Kp H H') (l : H' F = some (.lst us)) : JrAt K H' F us es s := ⟨l, ens_kp k h.en, h.run, h.ok, h.own⟩
theorem paired_snoc {α β : Type} {R : α → β → Prop} : ∀ {xs : List α} {ys : List β} {x : α} {y : β}, Paired R xs ys → R x y → Paired R (xs ++ [x]) (ys ++ [y])
  | _, _, _, _, .nil, h => .cons h .nil
  | _, _, _, _, .cons g t, h => .cons g (paired_snoc t h)
theorem JrAt.note {K : Frag} {H H' : Hp} {F : Addr} {us : List V} {es : List En} {s s' : RS} {v : V} {e : En} (h : JrAt K H F us es s) (he : EnV K H v (some e)) (hs : stepE 0 s (some e) = some s') (ok : RsOk s') (ow : ∀ m n d, e = .own m n d → d.2.2.2.length ≤ 1) (g : upd H F (.lst (us ++ [v])) = H') : JrAt K H' F (us ++ [v]) (es ++ [e]) s' := by
  have x : Ex F H H' := by
    rw [← g]
    exact Ex.refl.upd
  have k := Kp.exL x h.lst
  refine ⟨atOf g, ?_, ?_, ok, fun m n d hm => ?_⟩
  · rw [List.map_append]
    exact paired_snoc (ens_kp k h.en) (en_kp he k)
  · rw [List.map_append, runE_app h.run, List.map_cons, List.map_nil, runE_cons, hs]
    rfl
  · rcases List.mem_append.mp hm with hm | hm
    · exact h.own m n d hm
    · exact ow m n d (List.mem_singleton.mp hm).symm
/-- the dicts of the law's own -/
structure LsAt (H0 H : Hp) (R : Addr) (g : Int → Option Ct) (B : Int → Addr) (N : Nat) : Prop where
  dct : ∃ kvs, H R = some (.dK kvs) ∧ (∀ n, valV kvs (.inl n) = (g n).map fun _ => V.ref (B n)) ∧ kvs.length ≤ N
  sh : ∀ n c, g n = some c → B n ≠ R ∧ H0 (B n) = none ∧ ∃ kv, H (B n) = some (.dK kv) ∧ Rep kv c ∧ kv.length ≤ N
  sep : ∀ n n' c c', g n = some c → g n' = some c' → n ≠ n' → B n ≠ B n'
theorem LsAt.keep {H0 H H' : Hp} {R : Addr} {g : Int → Option Ct} {B : Int → Addr} {N M : Nat} (h : LsAt H0 H R g B N) (k : ∀ b kv, H b = some (.dK kv) → H' b = some (.dK kv)) (l : N ≤ M) : LsAt H0 H' R g B M := by
  obtain ⟨⟨kvs, h1, h2, h3⟩, h4, h5⟩ := h
  exact ⟨⟨kvs, k _ _ h1, h2, by omega⟩, fun n c e => let ⟨a, a0, kv, b, d, f⟩ := h4 n c e; ⟨a, a0, kv, k _ _ b, d, by omega⟩, h5⟩
theorem LsAt.same {H0 H H' : Hp} {R : Addr} {g : Int → Option Ct} {B : Int → Addr} {N : Nat} (h : LsAt H0 H R g B N) (s : Same H H') : LsAt H0 H' R g B N := h.keep (fun b kv e => s _ _ e) (Nat.le_refl _)
theorem LsAt.exL {H0 H H' : Hp} {R a : Addr} {g : Int → Option Ct} {B : Int → Addr} {N : Nat} {xs : List V} (h : LsAt H0 H R g B N) (x : Ex a H H') (e : H a = some (.lst xs)) : LsAt H0 H' R g B N := h.keep (fun b kv eb => x _ _ (ne_of eb e (fun z => by cases z)) eb) (Nat.le_refl _)
theorem LsAt.exP {H0 H H' : Hp} {R a : Addr} {g : Int → Option Ct} {B : Int → Addr} {N : Nat} (h : LsAt H0 H R g B N) (x : Ex a H H') (e : PoolAt H a) : LsAt H0 H' R g B N := by
  obtain ⟨i, j, e⟩ := e
  exact h.exL x e
theorem LsAt.put {H0 H H' : Hp} {R D : Addr} {g : Int → Option Ct} {B : Int → Addr} {N : Nat} {n : Int} {kvs kv : List (Key × V)} {c : Ct} (h : LsAt H0 H R g B N) (n0 : H0 D = none) (hD : H D = some (.dK kv)) (rep : Rep kv c) (lk : kv.length ≤ N + 1) (fresh : ∀ j c, g j = some c → B j ≠ D) (nR : D ≠ R) (hR : H R = some (.dK kvs)) (e : upd H R (.dK (putK kvs (.inl n) (.ref D))) = H') : LsAt H0 H' R (setS g n (some c)) (setS B n D) (N + 1) := by
  obtain ⟨⟨kvs', h1, h2, h3⟩, h4, h5⟩ := h
  rw [hR] at h1
  cases h1
  have x : Ex R H H' := by
    rw [← e]
    exact Ex.refl.upd
  refine ⟨⟨_, atOf e, fun j => ?_, by have := length_putK kvs (.inl n) (.ref D); omega⟩, fun j c' ej => ?_, fun j j' c1 c2 e1 e2 ne => ?_⟩
  · rw [valV_put]
    by_cases en : j = n
    · subst en
      rw [if_pos rfl, setS_same, setS_same]
      rfl
    · rw [if_neg (fun z => en (by cases z; rfl)), setS_ne en, setS_ne en]
      exact h2 j
  · by_cases en : j = n
    · subst en
      rw [setS_same] at ej ⊢
      cases ej
      exact ⟨nR, n0, kv, x _ _ nR hD, rep, lk⟩
    · rw [setS_ne en] at ej ⊢
      obtain ⟨a, a0, kv', b, d, f⟩ := h4 j c' ej
      exact ⟨a, a0, kv', x _ _ a b, d, by omega⟩
  · by_cases en : j = n
    · subst en
      rw [setS_ne (Ne.symm ne)] at e2 ⊢
      rw [setS_same]
      exact (fresh j' c2 e2).symm
    · rw [setS_ne en] at e1 ⊢
      by_cases en' : j' = n
      · subst en'
        rw [setS_same]
        exact fresh j c1 e1
      · rw [setS_ne en'] at e2 ⊢
        exact h5 j j' c1 c2 e1 e2 ne
theorem LsAt.drop {H0 H H' : Hp} {R : Addr} {g : Int → Option Ct} {B : Int → Addr} {N : Nat} {n : Int} {kvs : List (Key × V)} (h : LsAt H0 H R g B N) (hR : H R = some (.dK kvs)) (e : upd H R (.dK (dropK kvs (.inl n))) = H') : LsAt H0 H' R (setS g n none) B N := by
  obtain ⟨⟨kvs', h1, h2, h3⟩, h4, h5⟩ := h
  rw [hR] at h1
  cases h1
  have x : Ex R H H' := by
    rw [← e]
    exact Ex.refl.upd
  have old : ∀ j c, setS g n none j = some c → g j = some c := fun j c ej => by
    by_cases en : j = n
    · subst en
      rw [setS_same] at ej
      cases ej
    · rwa [setS_ne en] at ej
  refine ⟨⟨_, atOf e, fun j => ?_, Nat.le_trans (List.length_filter_le _ _) h3⟩, fun j c' ej => ?_, fun j j' c1 c2 e1 e2 ne => h5 j j' c1 c2 (old _ _ e1) (old _ _ e2) ne⟩
  · rw [valV_drop]
    by_cases en : j = n
    · subst en
      rw [if_pos rfl, setS_same]
      rfl
    · rw [if_neg (fun z => en (by cases z; rfl)), setS_ne en]
      exact h2 j
  · obtain ⟨a, a0, kv', b, d, f⟩ := h4 j c' (old _ _ ej)
    exact ⟨a, a0, kv', x _ _ a b, d, f⟩
theorem LsAt.chg {H0 H H' : Hp} {R : Addr} {g : Int → Option Ct} {B : Int → Addr} {N : Nat} {n : Int} {c c' : Ct} {kv : List (Key × V)} (h : LsAt H0 H R g B N) (hn : g n = some c) (x : Ex (B n) H H') (hD : H' (B n) = some (.dK kv)) (rep : Rep kv c') (lk : kv.length ≤ N + 1) : LsAt H0 H' R (setS g n (some c')) B (N + 1) := by
  obtain ⟨⟨kvs, h1, h2, h3⟩, h4, h5⟩ := h
  obtain ⟨nR, n0, kv0, b0, d0, f0⟩ := h4 n c hn
  refine ⟨⟨kvs, x _ _ nR.symm h1, fun j => ?_, by omega⟩, fun j cj ej => ?_, fun j j' c1 c2 e1 e2 ne => ?_⟩
  · rw [h2 j]
    by_cases en : j = n
    · subst en
      rw [setS_same, hn]
      rfl
    · rw [setS_ne en]
  · by_cases en : j = n
    · subst en
      rw [setS_same] at ej
      cases ej
      exact ⟨nR, n0, kv, hD, rep, lk⟩
    · rw [setS_ne en] at ej
      obtain ⟨a, a0, kv', b, d, f⟩ := h4 j cj ej
      exact ⟨a, a0, kv', x _ _ (h5 j n cj c ej hn en) b, d, by omega⟩
  · have un : ∀ j cj, setS g n (some c') j = some cj → ∃ ck, g j = some ck := fun j cj ej => by
      by_cases en : j = n
      · subst en
        exact ⟨c, hn⟩
      · rw [setS_ne en] at ej
        exact ⟨cj, ej⟩
    obtain ⟨k1, f1⟩ := un j c1 e1
    obtain ⟨k2, f2⟩ := un j' c2 e2
    exact h5 j j' k1 k2 f1 f2 ne
theorem ex_mut {a p : Addr} {H H1 H2 : Hp} (x : Ex a H H1) (n : H p = none) (y : Ex p H1 H2) : Ex a H H2 := fun b o nb hb => y b o (ne_of_none hb n) (x b o nb hb)
def cts (s : RS) : Int → Option Ct := fun n => (s.sh n).map (·.c)
theorem cts_set {s : RS} {n m : Int} {h : Option Sh} : cts ⟨m, setS s.sh n h⟩ = setS (cts s) n (h.map (·.c)) := by
  funext j
  unfold cts setS
  dsimp only
  split <;> rfl
theorem last_cut {f : Int} {rs : List LRow} : lastOf (cutF 0 f rs) (cutR 0 rs) = lastOf f rs := by
  unfold cutF cutR
  have e0 : rs.length - (0 : Int).toNat = rs.length := rfl
  rw [e0, List.drop_length]
  show floorOf f rs rs.length = _
  cases h : rs.length with
  | zero =>
    have : rs = [] := List.eq_nil_of_length_eq_zero h
    subst this
    rfl
  | succ n =>
    unfold floorOf lastOf
    have e : rs.getLast? = rs[n]? := by
      rw [List.getLast?_eq_getElem?, h]
      rfl
    rw [e]
    try rfl
theorem last_snoc {f : Int} {rs : List LRow} {r : LRow} : lastOf f (rs ++ [r]) = r.1 := by
  unfold lastOf
  rw [List.getLast?_append]
  rfl
theorem en_own_mk {K : Frag} {G : Hp} {t ar dx ra ca : Addr} {fs : List (Str × V)} {rus cus : List V} {rws : List (Option (Str × Int))} {chs : List (Option LRow)} {m n f : Int} (et : G t = some (.tup [.str "own", .int m, .int n, .ref ar, .int f, .ref ra, .ref ca])) (har : G ar = some (.ins (ga K "Arc") dx fs)) (m0 : 0 ≤ m) (n1 : 1 ≤ n) (f0 : 0 ≤ f)
    (hr : FzT G ra rus) (pr : Paired (RwV K G) rus rws) (fr : rus.length ≤ 1000) (okr : rwsOkO (some rws) = true) (hc : TpV G ca cus) (pc : Paired (ChV K G) cus chs) (fc : cus.length ≤ 1000) (okc : chsOk f chs = true) : EnV K G (.ref t) (some (.own m n (ar, f, rws, chs))) := by
  have e0 : ownD ar f (some rws) (some chs) = some (ar, f, rws, chs) := by
    unfold ownD
    rw [show (rwsOkO (some rws) && chsOkO f (some chs)) = true from Bool.and_eq_true_iff.mpr ⟨okr, okc⟩]
    rfl
  have o : OwnV K G (.ref t) (ownD ar f (some rws) (some chs)) := .own et har f0 (.tup (.inr hr) pr fr) (.tup hc pc fc) fun _ _ => ⟨ra, _, rfl, hr⟩
  rw [e0] at o
  exact .own et (by simp) m0 n1 o
/-- the three rows -/
def rows3 : List (Str × Int) := [("a", 1), ("b", 2), ("c", 3)]
theorem rws3_ok : ∀ k, k < 4 → rwsOkO (some ((rows3.take k).map some)) = true := by decide +kernel
theorem ct3_key {k : Nat} (hk : k < 4) {z : Str} (h : ctOf ((rows3.take k).map some) z ≠ none) : z ∈ abcd := by
  have : k = 0 ∨ k = 1 ∨ k = 2 ∨ k = 3 := by omega
  have e : ∀ (l : List (Option (Str × Int))), l.foldl (fun g r => match r with | some (z, v) => updC g z (some v) | none => g) (fun _ => none) z ≠ none → ∃ v, some (z, v) ∈ l := by
    intro l
    have key : ∀ (l : List (Option (Str × Int))) (g : Ct), l.foldl (fun g r => match r with | some (z, v) => updC g z (some v) | none => g) g z ≠ none → (∃ v, some (z, v) ∈ l) ∨ g z ≠ none := by
      intro l
      induction l with
      | nil => exact fun g h => .inr h
      | cons r l ih =>
        intro g h
        rcases ih _ h with ⟨v, hv⟩ | h
        · exact .inl ⟨v, List.mem_cons_of_mem _ hv⟩
        · cases r with
          | none => exact .inr h
          | some p =>
            obtain ⟨y, v⟩ := p
            by_cases e : z = y
            · subst e
              exact .inl ⟨v, List.mem_cons_self⟩
            · refine .inr ?_
              have h' : updC g y (some v) z ≠ none := h
              unfold updC at h'
              rwa [if_neg e] at h'
    exact fun h => (key l _ h).elim id fun h => absurd rfl h
  obtain ⟨v, hv⟩ := e _ h
  obtain ⟨p, hp, e2⟩ := List.mem_map.mp hv
  cases e2
  have hm := List.mem_of_mem_take hp
  unfold rows3 at hm
  simp only [List.mem_cons, Prod.mk.injEq, List.not_mem_nil, or_false] at hm
  rcases hm with ⟨rfl, _⟩ | ⟨rfl, _⟩ | ⟨rfl, _⟩ <;> simp [abcd]
/-- the loop of the entries -/
structure LE (K : Frag) (H G : Hp) (pl ar F R : Addr) (us : List V) (es : List En) (s : RS) (c : Int → Option Ct) (B : Int → Addr) (N : Nat) : Prop where
  jr : JrAt K G F us es s
  ls : LsAt H G R c B N
  ex : Ex pl H G
  pool : PoolAt G pl
  arc : ∃ dx fs, G ar = some (.ins (ga K "Arc") dx fs)
  nF : H F = none
  nR : H R = none
  fp : F ≠ pl
section
variable {K : Frag} {H G G' : Hp} {pl ar F R : Addr} {us : List V} {es : List En} {s s' : RS} {c : Int → Option Ct} {B : Int → Addr} {N : Nat}
theorem LE.same (g : LE K H G pl ar F R us es s c B N) (k : Same G G') : LE K H G' pl ar F R us es s c B N := by
  obtain ⟨dx, fs, a⟩ := g.arc
  exact ⟨g.jr.same k, g.ls.same k, fun b o n h => k _ _ (g.ex b o n h), g.pool.same k, ⟨dx, fs, k _ _ a⟩, g.nF, g.nR, g.fp⟩
theorem LE.ex' (g : LE K H G pl ar F R us es s c B N) (x : Ex pl G G') (hp : PoolAt G' pl) : LE K H G' pl ar F R us es s c B N := by
  obtain ⟨dx, fs, a⟩ := g.arc
  obtain ⟨i, j, e⟩ := id g.pool
  exact ⟨g.jr.kp (Kp.exP x g.pool) (x _ _ g.fp g.jr.lst), g.ls.exP x g.pool, fun b o n h => x b o n (g.ex b o n h), hp, ⟨dx, fs, x _ _ (ne_of a e (fun z => by cases z)) a⟩, g.nF, g.nR, g.fp⟩
theorem LE.note {v : V} {e : En} (g : LE K H G pl ar F R us es s c B N) (he : EnV K G v (some e)) (hs : stepE 0 s (some e) = some s') (ok : RsOk s') (ow : ∀ m n d, e = .own m n d → d.2.2.2.length ≤ 1) (h : upd G F (.lst (us ++ [v])) = G') : LE K H G' pl ar F R (us ++ [v]) (es ++ [e]) s' c B N := by
  obtain ⟨dx, fs, a⟩ := g.arc
  obtain ⟨i, j, e1⟩ := id g.pool
  have x : Ex F G G' := by
    rw [← h]
    exact Ex.refl.upd
  exact ⟨g.jr.note he hs ok ow h, g.ls.exL x g.jr.lst, ex_mut g.ex g.nF x, ⟨i, j, x _ _ g.fp.symm e1⟩, ⟨dx, fs, x _ _ (ne_of a g.jr.lst (fun z => by cases z)) a⟩, g.nF, g.nR, g.fp⟩
/-- a dict is changed -/
theorem LE.dct {D : Addr} {kv : List (Key × V)} {c' : Int → Option Ct} {B' : Int → Addr} {N' : Nat} (g : LE K H G pl ar F R us es s c B N) (hD : G D = some (.dK kv)) (nD : H D = none) (x : Ex D G G') (l : LsAt H G' R c' B' N') : LE K H G' pl ar F R us es s c' B' N' := by
  obtain ⟨dx, fs, a⟩ := g.arc
  obtain ⟨i, j, e1⟩ := id g.pool
  exact ⟨g.jr.kp (Kp.exD x hD) (x _ _ (ne_of g.jr.lst hD (fun z => by cases z)) g.jr.lst), l, ex_mut g.ex nD x, ⟨i, j, x _ _ (ne_of e1 hD (fun z => by cases z)) e1⟩, ⟨dx, fs, x _ _ (ne_of a hD (fun z => by cases z)) a⟩, g.nF, g.nR, g.fp⟩
/-- an entry of a shard that comes -/
theorem step_own {m n f : Int} {ar : Addr} {rws : List (Option (Str × Int))} {chs : List (Option LRow)} (ok : RsOk s) (hm : s.mom ≤ m) (hn : n = 1 ∨ n = 2) (hs : s.sh n = none) (hl : lastOf f (chsOf chs) ≤ m) (hk : ∀ z, ctOf rws z ≠ none → z ∈ abcd) :
    stepE 0 s (some (.own m n (ar, f, rws, chs))) = some ⟨m, setS s.sh n (some ⟨ar, ctOf rws, cutF 0 f (chsOf chs), cutR 0 (chsOf chs)⟩)⟩ ∧ RsOk ⟨m, setS s.sh n (some ⟨ar, ctOf rws, cutF 0 f (chsOf chs), cutR 0 (chsOf chs)⟩)⟩ := by
  refine ⟨?_, fun j h e => ?_, fun j h e => ?_, fun j h z e hz => ?_, by have := ok.mom; show 0 ≤ m; omega⟩
  · unfold stepE
    dsimp only
    rw [if_neg (by omega), hs]
  all_goals
    have e' : setS s.sh n (some ⟨ar, ctOf rws, cutF 0 f (chsOf chs), cutR 0 (chsOf chs)⟩) j = some h := e
    by_cases en : j = n
    · subst en
      rw [setS_same] at e'
      cases e'
      first
        | exact hn
        | (show lastOf (cutF 0 f (chsOf chs)) (cutR 0 (chsOf chs)) ≤ m; rw [last_cut]; exact hl)
        | exact hk _ hz
    · rw [setS_ne en] at e'
      first
        | exact ok.num j h e'
        | (have := ok.last j h e'; show lastOf h.f h.rs ≤ m; omega)
        | exact ok.key j h z e' hz
theorem step_drop {m n : Int} {h : Sh} (ok : RsOk s) (hm : s.mom ≤ m) (hs : s.sh n = some h) : stepE 0 s (some (.drop m n)) = some ⟨m, setS s.sh n none⟩ ∧ RsOk ⟨m, setS s.sh n none⟩ := by
  refine ⟨?_, fun j h e => ?_, fun j h e => ?_, fun j h z e hz => ?_, by have := ok.mom; show 0 ≤ m; omega⟩
  · unfold stepE
    dsimp only
    rw [if_neg (by omega), hs]
  all_goals
    have e' : setS s.sh n none j = some h := e
    by_cases en : j = n
    · subst en
      rw [setS_same] at e'
      cases e'
    · rw [setS_ne en] at e'
      first
        | exact ok.num j h e'
        | (have := ok.last j h e'; show lastOf h.f h.rs ≤ m; omega)
        | exact ok.key j h z e' hz
theorem step_chg {m n : Int} {z : Str} {o w : Option Int} {h : Sh} (ok : RsOk s) (hm : s.mom < m) (hs : s.sh n = some h) (ho : h.c z = o) (hz : z ∈ abcd) :
    stepE 0 s (some (.chg m n z o w)) = some ⟨m, setS s.sh n (some ⟨h.ar, updC h.c z w, cutF 0 h.f (h.rs ++ [(m, z, o, w)]), cutR 0 (h.rs ++ [(m, z, o, w)])⟩)⟩ ∧ RsOk ⟨m, setS s.sh n (some ⟨h.ar, updC h.c z w, cutF 0 h.f (h.rs ++ [(m, z, o, w)]), cutR 0 (h.rs ++ [(m, z, o, w)])⟩)⟩ := by
  have hl := ok.last n h hs
  refine ⟨?_, fun j h' e => ?_, fun j h' e => ?_, fun j h' y e hy => ?_, by have := ok.mom; show 0 ≤ m; omega⟩
  · unfold stepE
    dsimp only
    rw [if_neg (by omega), hs]
    dsimp only
    rw [if_pos ⟨ho, by omega⟩]
  all_goals
    have e' : setS s.sh n (some ⟨h.ar, updC h.c z w, cutF 0 h.f (h.rs ++ [(m, z, o, w)]), cutR 0 (h.rs ++ [(m, z, o, w)])⟩) j = some h' := e
    by_cases en : j = n
    · subst en
      rw [setS_same] at e'
      cases e'
      first
        | exact ok.num _ _ hs
        | (show lastOf (cutF 0 h.f (h.rs ++ [(m, z, o, w)])) (cutR 0 (h.rs ++ [(m, z, o, w)])) ≤ m; rw [last_cut, last_snoc]; exact Int.le_refl _)
        | (have hy' : updC h.c z w y ≠ none := hy
           unfold updC at hy'
           by_cases ey : y = z
           · rw [ey]; exact hz
           · rw [if_neg ey] at hy'
             exact ok.key _ _ y hs hy')
    · rw [setS_ne en] at e'
      first
        | exact ok.num j h' e'
        | (have := ok.last j h' e'; show lastOf h'.f h'.rs ≤ m; omega)
        | exact ok.key j h' y e' hy
end
theorem rows_rw {K : Frag} {H : Hp} {as : List Addr} {rs : List (Str × Int)} (h : RowsP H as rs) (hs : ∀ r ∈ rs, r.1.length ≤ 1000) : Paired (RwV K H) (as.map V.ref) (rs.map some) := by
  induction h with
  | nil => exact .nil
  | cons h _ ih => exact .cons (.row h (hs _ List.mem_cons_self)) (ih fun r hr => hs r (List.mem_cons_of_mem _ hr))
theorem rows_chv {K : Frag} {H : Hp} {as : List Addr} {rs : List LRow} (h : RowsAt H as rs) (hs : ∀ r ∈ rs, r.2.1.length ≤ 1000 ∧ PyData.strOk r.2.1 = true) : Paired (ChV K H) (as.map V.ref) (rs.map some) := by
  induction h with
  | nil => exact .nil
  | cons h _ ih => exact .cons (.row h (hs _ List.mem_cons_self).1 (hs _ List.mem_cons_self).2) (ih fun r hr => hs r (List.mem_cons_of_mem _ hr))
theorem chsOf_some (rs : List LRow) : chsOf (rs.map some) = rs := by
  unfold chsOf
  rw [List.filterMap_map]
  exact List.filterMap_some
theorem rows3_short {k : Nat} : ∀ r ∈ rows3.take k, r.1.length ≤ 1000 := fun r hr => by
  have h : ∀ r ∈ rows3, r.1.length ≤ 1000 := by decide +kernel
  exact h r (List.mem_of_mem_take hr)
def kvR (rs : List (Str × Int)) : List (Key × V) := rs.map fun r => (Sum.inr r.1, V.int r.2)
theorem rowsP_pairs {K : Frag} {H : Hp} {as : List Addr} {rs : List (Str × Int)} (h : RowsP H as rs) : Paired (fun p kv => SqT K H p [kV kv.1, kv.2]) as (kvR rs) := by
  induction h with
  | nil => exact .nil
  | cons h _ ih => exact .cons (SqT.of h) ih
theorem rep_rows : ∀ (rs : List (Str × Int)) (k0 : List (Key × V)) (g : Ct), Rep k0 g → Rep (mergeK k0 (kvR rs)) ((rs.map some).foldl (fun g r => match r with | some (z, v) => updC g z (some v) | none => g) g)
  | [], k0, g, h => h
  | r :: rs, k0, g, h => rep_rows rs _ _ (h.put r.1 r.2)
theorem LE.free {K : Frag} {H G : Hp} {pl ar F R D : Addr} {us : List V} {es : List En} {s : RS} {c : Int → Option Ct} {B : Int → Addr} {N : Nat} (g : LE K H G pl ar F R us es s c B N) (h : G D = none) : H D = none := by
  cases e : H D with
  | none => rfl
  | some o =>
    have n : D ≠ pl := g.pool.ne h
    rw [g.ex D o n e] at h
    cases h
theorem LE.mono {K : Frag} {H G : Hp} {pl ar F R : Addr} {us : List V} {es : List En} {s : RS} {c : Int → Option Ct} {B : Int → Addr} {N M : Nat} (g : LE K H G pl ar F R us es s c B N) (l : N ≤ M) : LE K H G pl ar F R us es s c B M := ⟨g.jr, g.ls.keep (fun b kv e => e) l, g.ex, g.pool, g.arc, g.nF, g.nR, g.fp⟩
theorem abcd_ok : ∀ z ∈ abcd, z.length ≤ 1000 ∧ PyData.strOk z = true ∧ isKeyL z.cps.toList = true := by decide +kernel
theorem abcd_at {v : Int} (h0 : 0 ≤ v) (h1 : v < 4) : ∃ c : Nat, atI (Str.ofString "abcd").cps.toList v = some c ∧ (⟨#[c]⟩ : Str) ∈ abcd := by
  rcases (show v = 0 ∨ v = 1 ∨ v = 2 ∨ v = 3 by omega) with rfl | rfl | rfl | rfl
  · exact ⟨97, by decide +kernel, by decide +kernel⟩
  · exact ⟨98, by decide +kernel, by decide +kernel⟩
  · exact ⟨99, by decide +kernel, by decide +kernel⟩
  · exact ⟨100, by decide +kernel, by decide +kernel⟩
theorem dget_of {H : Hp} {a : Addr} {kvs : List (Key × V)} {k : Key} {v : V} (e : H a = some (.dK kvs)) (h : valV kvs k = some v) : DGet H a (kV k) (some v) := h ▸ DGet.k e
theorem oV_val (o : Option Int) : (o.map V.int).getD .non = oV o := by cases o <;> rfl
theorem oV_non {o : Option Int} : oV o = V.non ↔ o = none := by cases o <;> simp [oV]
theorem own_bad {K : Frag} {H : Hp} {a ar dx : Addr} {fs : List (Str × V)} {r c : V} {m n f : Int} {rc : Option (List (Option (Str × Int)))} {cc : Option (List (Option LRow))} (e : H a = some (.tup [.str "own", .int m, .int n, .ref ar, .int f, r, c])) (ha : H ar = some (.ins (ga K "Arc") dx fs)) (m0 : 0 ≤ m) (n1 : 1 ≤ n) (f0 : 0 ≤ f) (hr : RwsV K H r rc) (hc : ChsV K H c cc) (hb : (rwsOkO rc && chsOkO f cc) = false) : EnV K H (.ref a) none := by
  have o : OwnV K H (.ref a) (ownD ar f rc cc) := .own e ha f0 hr hc fun h1 h2 => by
    rw [h1, h2] at hb
    cases hb
  have e0 : ownD ar f rc cc = none := by
    unfold ownD
    rw [if_neg (by rw [hb]; decide)]
  rw [e0] at o
  exact .own (b := none) e (by simp) m0 n1 o
theorem en_chg_mk {K : Frag} {H : Hp} {a : Addr} {m n : Int} {z : Str} {o w : Option Int} (e : H a = some (.tup [.str "change", .int m, .int n, .str z, oV o, oV w])) (m0 : 0 ≤ m) (n1 : 1 ≤ n) (hz : z.length ≤ 1000 ∧ PyData.strOk z = true ∧ isKeyL z.cps.toList = true) (h : (o.isSome || w.isSome) = true) : EnV K H (.ref a) (some (.chg m n z o w)) := by
  have en := EnV.chg (K := K) e m0 n1 hz.1 hz.2.1
  rw [if_pos (by unfold isChg; dsimp only; rw [decide_eq_true (show (-1 : Int) < m by omega), hz.2.2, h]; rfl)] at en
  exact en
theorem en_chg_no {K : Frag} {H : Hp} {a : Addr} {m n : Int} {z : Str} {o w : Option Int} (e : H a = some (.tup [.str "change", .int m, .int n, .str z, oV o, oV w])) (m0 : 0 ≤ m) (n1 : 1 ≤ n) (hs : z.length ≤ 1000) (ho : PyData.strOk z = true) (h : (isKeyL z.cps.toList && (o.isSome || w.isSome)) = false) : EnV K H (.ref a) none := by
  have en := EnV.chg (K := K) e m0 n1 hs ho
  rw [if_neg (by unfold isChg; dsimp only; rw [h, Bool.and_false]; decide)] at en
  exact en
/-- an entry that no journal of the law's takes -/
def Refuses (c : Option En) : Prop := ∀ s, RsOk s → stepE 0 s c = none
theorem refuses_none : Refuses none := fun s _ => rfl
theorem no9 {s : RS} (ok : RsOk s) : s.sh 9 = none := by
  cases e : s.sh 9 with
  | none => rfl
  | some h => rcases ok.num 9 h e with z | z <;> omega
theorem refuses_drop {m : Int} : Refuses (some (.drop m 9)) := fun s ok => by
  unfold stepE
  dsimp only
  rw [no9 ok]
  split <;> rfl
theorem refuses_chg {m : Int} {z : Str} {o w : Option Int} : Refuses (some (.chg m 9 z o w)) := fun s ok => by
  unfold stepE
  dsimp only
  rw [no9 ok]
  split <;> rfl
theorem refuse_nil : ∀ c ∈ ([] : List (Option En)), Refuses c := fun c h => nomatch h
theorem refuse_cons {c : Option En} {cs : List (Option En)} (h : Refuses c) (t : ∀ c ∈ cs, Refuses c) : ∀ d ∈ c :: cs, Refuses d := fun d hd => by
  rcases List.mem_cons.mp hd with e | e
  · rw [e]; exact h
  · exact t d e

def sp__law_entries (K : Frag) : Sp := fun vs H Q _ => ∃ (pl ar dx : Addr) (fs : List (Str × V)), vs = [.ref pl, .ref ar] ∧ PoolAt H pl ∧ H ar = some (.ins (ga K "Arc") dx fs) ∧ ∀ G F us es s, Ex pl H G → H F = none → PoolAt G pl → JrAt K G F us es s → us.length ≤ 11 → s.mom ≤ 22 → Q (.ref F) G
theorem sc__law_entries : FnScope ["_law_pool", "_law_arc", "_law_turn", "_law_found", "_law_rows", "_law_moment", "_law_number", "_law_way", "_law_floor", "_law_some", "_law_changes", "_law_key", "_law_old", "_law_new"] ["_law_pool", "_law_arc"] (defScope s__law_entries) := ⟨rfl, rfl, rfl, by decide +kernel, rfl, by decide +kernel, by decide +kernel⟩
theorem ok__law_entries {P : Program} {w : World} {K : Frag} {mg : Str → Option Value} {base : Heap} (T : Txt K mg) : FnB P w K mg base 2 (glA "_law_entries" K) (sp__law_entries K) := by
  refine okD (N := ["_law_pool", "_law_arc", "_law_turn", "_law_found", "_law_rows", "_law_moment", "_law_number", "_law_way", "_law_floor", "_law_some", "_law_changes", "_law_key", "_law_old", "_law_new"]) (ps := ["_law_pool", "_law_arc"]) (k := 1) (d := g__law_entries) T.d__law_entries rfl sc__law_entries (fun vs H Q E h => ?_) (fun _ _ _ _ _ _ us hl => match us, hl with | [_, _], _ => rfl) (fun A outer s H vs Q E hr h => ?_)
  · obtain ⟨pl, ar, dx, fs, rfl, hp, har, q⟩ := h
    rfl
  · have hu := hr.hu
    obtain ⟨pl, ar, dx, fs, rfl, hp, har, q⟩ := h
    refine ⟨_, PSs.nox ((pss_cons (ps_par3 (i := 3) (j := 4) (l := 5) (by rfl) sc__law_entries.nd rfl rfl rfl (by decide) (by decide) (by decide) rfl rfl rfl (pa_cons (pe_lst pa_nil) (pa_cons pe_dnewK (pa_cons pe_int pa_nil))) (by rfl))
      (pss_cons (ps_for PassesOwn.never rfl (pi_range1 (by rfl) T.b_range (pa_cons (pe_cF (ok__law_draw (K := K) T) hr T.m__law_draw passL (pa_cons (pv 0) (pa_cons pe_int pa_nil))) pa_nil)) (pg_name (i := 2) sc__law_entries.nd rfl (Or.inl rfl))
        (pss_cons (ps_set (i := 5) sc__law_entries.nd rfl (Or.inl rfl) (pe_op op_add (pe_op op_add (pv 5) pe_int) (pe_cF (ok__law_draw (K := K) T) hr T.m__law_draw passL (pa_cons (pv 0) (pa_cons pe_int pa_nil)))))
        (pss_cons (ps_set (i := 6) sc__law_entries.nd rfl (Or.inl rfl) (pe_op op_add pe_int (pe_cF (ok__law_draw (K := K) T) hr T.m__law_draw passL (pa_cons (pv 0) (pa_cons pe_int pa_nil)))))
        (pss_cons (ps_set (i := 7) sc__law_entries.nd rfl (Or.inl rfl) (pe_cF (ok__law_draw (K := K) T) hr T.m__law_draw passL (pa_cons (pv 0) (pa_cons pe_int pa_nil))))
        (pss_one (ps_if (pt_cmp (pc_dnotin hr.hu (pv 6) (pv 4)))
          (pss_cons (ps_set (i := 8) sc__law_entries.nd rfl (Or.inl rfl) (pe_cF (ok__law_draw (K := K) T) hr T.m__law_draw passL (pa_cons (pv 0) (pa_cons (pv 5) pa_nil))))
          (pss_cons (ps_set (i := 9) sc__law_entries.nd rfl (Or.inl rfl) (pe_slice sl_list (pe_lst (pa_cons (pe_tup (pa_cons pe_str (pa_cons pe_int pa_nil))) (pa_cons (pe_tup (pa_cons pe_str (pa_cons pe_int pa_nil))) (pa_cons (pe_tup (pa_cons pe_str (pa_cons pe_int pa_nil))) pa_nil)))) po_none (po_some (pe_cF (ok__law_draw (K := K) T) hr T.m__law_draw passL (pa_cons (pv 0) (pa_cons pe_int pa_nil))))))
          (pss_cons (ps_set (i := 10) sc__law_entries.nd rfl (Or.inl rfl) (pe_slice sl_list (pe_lst (pa_cons (pe_tup (pa_cons (pe_op op_add (pv 8) pe_int) (pa_cons pe_str (pa_cons pe_non (pa_cons pe_int pa_nil))))) pa_nil)) po_none (po_some (pe_op op_mul (pe_callTy call_int1 (by rfl) T.b_int (by decide +kernel) (pa_cons (pe_cmpR op_le (pe_op op_add (pv 8) pe_int) (pv 5) (nomark _)) pa_nil)) (pe_cF (ok__law_draw (K := K) T) hr T.m__law_draw passL (pa_cons (pv 0) (pa_cons pe_int pa_nil)))))))
          (pss_cons (ps_expr (pe_bm PySem.F.plainAttrs_list PySem.F.slot_list_append PySem.F.type_list_append mt_append (pv 3) (pa_cons (pe_tup (pa_cons pe_str (pa_cons (pv 5) (pa_cons (pv 6) (pa_cons (pv 1) (pa_cons (pv 8) (pa_cons (pe_callTy call_tupleFz (by rfl) T.b_tuple (by decide +kernel) (pa_cons (pv 9) pa_nil)) (pa_cons (pe_callTy call_tupleFz (by rfl) T.b_tuple (by decide +kernel) (pa_cons (pv 10) pa_nil)) pa_nil)))))))) pa_nil)))
          (pss_one (ps_dput hr.hu (pv 4) (pv 6) (pe_callTy (call_dictP rfl) (by rfl) T.b_dict (by decide +kernel) (pa_cons (pv 9) pa_nil)) rfl))))))
          (pss_one (ps_if (pt_cmpR op_eq (pv 7) pe_int (nomark _))
            (pss_cons (ps_expr (pe_bm PySem.F.plainAttrs_list PySem.F.slot_list_append PySem.F.type_list_append mt_append (pv 3) (pa_cons (pe_tup (pa_cons pe_str (pa_cons (pv 5) (pa_cons (pv 6) pa_nil)))) pa_nil)))
            (pss_one (ps_expr (pe_dpop1 (pv 4) (pv 6) ⟨rfl, rfl, rfl, rfl⟩))))
            (pss_cons (ps_set (i := 11) sc__law_entries.nd rfl (Or.inl rfl) (pe_ix ix_str pe_str (pe_cF (ok__law_draw (K := K) T) hr T.m__law_draw passL (pa_cons (pv 0) (pa_cons pe_int pa_nil))) (fun _ _ => rfl)))
            (pss_cons (ps_set (i := 12) sc__law_entries.nd rfl (Or.inl rfl) (pe_dget1 hr.hu (pe_dget hr.hu (pv 4) (pv 6) (fun _ _ => rfl)) (pv 11) ⟨rfl, rfl, rfl, rfl⟩))
            (pss_cons (ps_set (i := 13) sc__law_entries.nd rfl (Or.inl rfl) (pe_ifExp (PW.pt (pw_and (pt_cmpR op_notN (pv 12) pe_non (nomark _)) (pw_and1 (pt_cmpR op_eq (pe_cF (ok__law_draw (K := K) T) hr T.m__law_draw passL (pa_cons (pv 0) (pa_cons pe_int pa_nil))) pe_int (nomark _))))) pe_non (pe_cF (ok__law_draw (K := K) T) hr T.m__law_draw passL (pa_cons (pv 0) (pa_cons pe_int pa_nil)))))
            (pss_cons (ps_expr (pe_bm PySem.F.plainAttrs_list PySem.F.slot_list_append PySem.F.type_list_append mt_append (pv 3) (pa_cons (pe_tup (pa_cons pe_str (pa_cons (pv 5) (pa_cons (pv 6) (pa_cons (pv 11) (pa_cons (pv 12) (pa_cons (pv 13) pa_nil))))))) pa_nil)))
            (pss_cons (ps_expr (pe_dpop2 (pe_dget hr.hu (pv 4) (pv 6) (fun _ _ => rfl)) (pv 11) pe_non ⟨rfl, rfl, rfl, rfl⟩))
            (pss_one (ps_if (pt_cmpR op_notN (pv 13) pe_non (nomark _))
              (pss_one (ps_dput hr.hu (pe_dget hr.hu (pv 4) (pv 6) (fun _ _ => rfl)) (pv 11) (pv 13) rfl))
              pss_nil)))))))))))))))
      (pss_one (ps_ret (pv 3)))))), ?_⟩
    refine seq_gen (fun σ' G => ∃ F R : Addr, σ' = [some (.ref pl), some (.ref ar), none, some (.ref F), some (.ref R), some (.int 0), none, none, none, none, none, none, none, none] ∧ LE K H G pl ar F R [] [] ⟨0, fun _ => none⟩ (fun _ => none) (fun _ => 0) 10) (fun N2 hN2 => ?_) ?_
    · dsimp only [tPar3]
      walk_at "nm"
      refine ⟨by rw [sizeLine_eq]; first | decide | simp, fun F nF => ?_⟩
      generalize hg : upd _ F _ = G1
      have s1 := sameOf nF hg
      have e1 := atOf hg
      clear hg
      intro R nR
      generalize hg : upd G1 R _ = G2
      have s2 := sameOf nR hg
      have e2 := atOf hg
      clear hg
      have k2 := s1.trans s2
      refine ⟨_, _, _, ⟨rfl, rfl, rfl⟩, hN2 _ _ ⟨F, R, rfl, ⟨s2 _ _ e1, .nil, rfl, ⟨(fun n h e => nomatch e), (fun n h e => nomatch e), (fun n h z e => nomatch e), Int.le_refl _⟩, (fun m n d h => nomatch h)⟩, ⟨⟨[], e2, (fun n => rfl), by simp⟩, (fun n c e => nomatch e), (fun n n' c c' e => nomatch e)⟩, fun b o _ h => k2 _ _ h, hp.same k2, ⟨dx, fs, k2 _ _ har⟩, nF, s1.free nR, hp.ne nF⟩⟩
    rintro σ' G1 ⟨F, R, rfl, le⟩
    refine seq_gen (fun σ' G => ∃ us es s B w2 w6 w7 w8 w9 w10 w11 w12 w13, σ' = [some (.ref pl), some (.ref ar), w2, some (.ref F), some (.ref R), some (.int s.mom), w6, w7, w8, w9, w10, w11, w12, w13] ∧ LE K H G pl ar F R us es s (cts s) B 100 ∧ us.length ≤ 11 ∧ s.mom ≤ 22) (fun N2 hN2 => ?_) ?_
    · walk_at "nm"
      refine ⟨_, rfl, pl, 12, rfl, le.pool, by decide, by decide, fun v G2 v0 v1 hp2 x2 => ?_⟩
      refine ⟨_, rfl, by omega, by omega, for_range (fun i σ' G => ∃ us es s B w2 w6 w7 w8 w9 w10 w11 w12 w13, σ' = [some (.ref pl), some (.ref ar), w2, some (.ref F), some (.ref R), some (.int s.mom), w6, w7, w8, w9, w10, w11, w12, w13] ∧ LE K H G pl ar F R us es s (cts s) B (10 + 2 * i) ∧ us.length ≤ i ∧ s.mom ≤ 2 * i) ⟨[], [], ⟨0, fun _ => none⟩, _, _, _, _, _, _, _, _, _, _, rfl, le.ex' x2 hp2, Nat.le_refl _, by simp⟩ ?_ ?_⟩
      · rintro i σ' G3 hi ⟨us, es, s, B, w2, w6, w7, w8, w9, w10, w11, w12, w13, rfl, le, few, mom⟩
        have hi11 : i < 11 := by omega
        dsimp only [gName]
        simp only [List.set_cons_succ, List.set_cons_zero]
        -- the moment
        refine seq_gen (fun σ' G => ∃ m : Int, σ' = [some (.ref pl), some (.ref ar), some (.int (0 + (i : Int))), some (.ref F), some (.ref R), some (.int m), w6, w7, w8, w9, w10, w11, w12, w13] ∧ LE K H G pl ar F R us es s (cts s) B (10 + 2 * i) ∧ s.mom < m ∧ m ≤ 2 * i + 2) (fun N3 hN3 => ?_) ?_
        · walk_at "nm"
          exact ⟨pl, 2, rfl, le.pool, by decide, by decide, fun v G v0 v1 hp x => ⟨_, rfl, hN3 _ _ ⟨_, rfl, le.ex' x hp, by omega, by omega⟩⟩⟩
        clear le
        rintro σ' G4 ⟨m, rfl, le, m1, m2⟩
        -- the number
        refine seq_gen (fun σ' G => ∃ n : Int, σ' = [some (.ref pl), some (.ref ar), some (.int (0 + (i : Int))), some (.ref F), some (.ref R), some (.int m), some (.int n), w7, w8, w9, w10, w11, w12, w13] ∧ LE K H G pl ar F R us es s (cts s) B (10 + 2 * i) ∧ (n = 1 ∨ n = 2)) (fun N3 hN3 => ?_) ?_
        · walk_at "nm"
          exact ⟨pl, 2, rfl, le.pool, by decide, by decide, fun v G v0 v1 hp x => ⟨_, rfl, hN3 _ _ ⟨_, rfl, le.ex' x hp, by omega⟩⟩⟩
        clear le
        rintro σ' G5 ⟨n, rfl, le, hn⟩
        -- the way
        refine seq_gen (fun σ' G => ∃ w : Int, σ' = [some (.ref pl), some (.ref ar), some (.int (0 + (i : Int))), some (.ref F), some (.ref R), some (.int m), some (.int n), some (.int w), w8, w9, w10, w11, w12, w13] ∧ LE K H G pl ar F R us es s (cts s) B (10 + 2 * i)) (fun N3 hN3 => ?_) ?_
        · walk_at "nm"
          exact ⟨pl, 6, rfl, le.pool, by decide, by decide, fun v G v0 v1 hp x => hN3 _ _ ⟨_, rfl, le.ex' x hp⟩⟩
        clear le
        rintro σ' G6 ⟨w, rfl, le⟩
        have mom0 := le.jr.ok.mom
        obtain ⟨kvs, hR, hval, lk⟩ := id le.ls.dct
        dsimp only [tIfS, tB, tDNotIn, tVar]
        refine ⟨_, rfl, _, rfl, R, _, rfl, DGet.k (k := .inl n) hR, _, rfl, ?_⟩
        rw [hval n]
        cases hs : s.sh n with
        | none =>
          rw [show cts s n = none by simp [cts, hs]]
          refine iteT ?_
          -- the floor
          refine seq_gen (fun σ' G => ∃ f : Int, σ' = [some (.ref pl), some (.ref ar), some (.int (0 + (i : Int))), some (.ref F), some (.ref R), some (.int m), some (.int n), some (.int w), some (.int f), w9, w10, w11, w12, w13] ∧ LE K H G pl ar F R us es s (cts s) B (10 + 2 * i) ∧ 0 ≤ f ∧ f < m) (fun N3 hN3 => ?_) ?_
          · walk_at "nm"
            exact ⟨pl, m, rfl, le.pool, by omega, by omega, fun v G v0 v1 hp x => hN3 _ _ ⟨_, rfl, le.ex' x hp, v0, v1⟩⟩
          clear le hR hval lk kvs
          rintro σ' G7 ⟨f, rfl, le, f0, f1⟩
          -- some rows
          refine seq_gen (fun σ' G => ∃ (k : Nat) (L : Addr) (ts : List Addr), σ' = [some (.ref pl), some (.ref ar), some (.int (0 + (i : Int))), some (.ref F), some (.ref R), some (.int m), some (.int n), some (.int w), some (.int f), some (.ref L), w10, w11, w12, w13] ∧ LE K H G pl ar F R us es s (cts s) B (10 + 2 * i) ∧ k < 4 ∧ G L = some (.lst (ts.map V.ref)) ∧ RowsP G ts (rows3.take k) ∧ L ≠ F ∧ L ≠ pl) (fun N3 hN3 => ?_) ?_
          · walk_at "nm"
            refine ⟨by rw [sizeLine_eq]; first | decide | simp, fun t1 n1 => ?_⟩
            generalize hg : upd _ t1 _ = A1
            have s1 := sameOf n1 hg
            have h1 := atOf hg
            clear hg
            refine ⟨by rw [sizeLine_eq]; first | decide | simp, fun t2 n2 => ?_⟩
            generalize hg : upd _ t2 _ = A2
            have s2 := sameOf n2 hg
            have h2 := atOf hg
            clear hg
            refine ⟨by rw [sizeLine_eq]; first | decide | simp, fun t3 n3 => ?_⟩
            generalize hg : upd _ t3 _ = A3
            have s3 := sameOf n3 hg
            have h3 := atOf hg
            clear hg
            refine ⟨by rw [sizeLine_eq]; first | decide | simp, fun t4 n4 => ?_⟩
            generalize hg : upd _ t4 _ = A4
            have s4 := sameOf n4 hg
            have h4 := atOf hg
            clear hg
            have k3 := (s1.trans s2).trans s3
            have le4 := le.same (k3.trans s4)
            refine ⟨pl, 4, rfl, le4.pool, by decide, by decide, fun v A5 v0 v1 hp5 x5 => ?_⟩
            have le5 := le4.ex' x5 hp5
            have u1 := x5 _ _ (le.pool.ne n1) ((s2.trans (s3.trans s4)) _ _ h1)
            have u2 := x5 _ _ ((le.pool.same s1).ne n2) ((s3.trans s4) _ _ h2)
            have u3 := x5 _ _ ((le.pool.same (s1.trans s2)).ne n3) (s4 _ _ h3)
            have u4 := x5 _ _ ((le.pool.same k3).ne n4) h4
            refine ⟨_, rfl, t4, _, rfl, SqL.of u4, fun L nL => ?_⟩
            generalize hg : upd A5 L _ = A6
            have s6 := sameOf nL hg
            have e6 := atOf hg
            clear hg
            obtain ⟨k, rfl⟩ : ∃ k : Nat, v = k := ⟨v.toNat, by omega⟩
            rw [cut_take] at e6
            refine hN3 _ _ ⟨k, L, [t1, t2, t3].take k, rfl, le5.same s6, by omega, ?_, RowsP.take (.cons (s6 _ _ u1) (.cons (s6 _ _ u2) (.cons (s6 _ _ u3) .nil))) k, (ne_of_none le5.jr.lst nL).symm, le5.pool.ne nL⟩
            rw [e6, List.map_take]
            rfl
          clear le
          rintro σ' G8 ⟨k, L, ts, rfl, le, k4, hL, hts, nLF, nLp⟩
          -- some changes
          refine seq_gen (fun σ' G => ∃ (M : Addr) (cs : List Addr) (rs : List LRow), σ' = [some (.ref pl), some (.ref ar), some (.int (0 + (i : Int))), some (.ref F), some (.ref R), some (.int m), some (.int n), some (.int w), some (.int f), some (.ref L), some (.ref M), w11, w12, w13] ∧ LE K H G pl ar F R us es s (cts s) B (10 + 2 * i) ∧ G L = some (.lst (ts.map V.ref)) ∧ RowsP G ts (rows3.take k) ∧ G M = some (.lst (cs.map V.ref)) ∧ RowsAt G cs rs ∧ (rs = [] ∨ rs = ([(f + 1, "a", none, some 5)] : List LRow) ∧ f + 1 ≤ m)) (fun N3 hN3 => ?_) ?_
          · walk_at "nm"
            refine ⟨by rw [sizeLine_eq]; first | decide | simp, fun t1 n1 => ?_⟩
            generalize hg : upd _ t1 _ = A1
            have s1 := sameOf n1 hg
            have h1 := atOf hg
            clear hg
            refine ⟨by rw [sizeLine_eq]; first | decide | simp, fun t2 n2 => ?_⟩
            generalize hg : upd _ t2 _ = A2
            have s2 := sameOf n2 hg
            have h2 := atOf hg
            clear hg
            refine .inr ⟨pl, 2, rfl, (le.pool.same s1).same s2, by decide, by decide, fun v A5 v0 v1 hp5 x5 => ?_⟩
            have le5 := (le.same (s1.trans s2)).ex' x5 hp5
            have u1 := x5 _ _ (le.pool.ne n1) (s2 _ _ h1)
            have u2 := x5 _ _ ((le.pool.same s1).ne n2) h2
            have uL := x5 _ _ nLp ((s1.trans s2) _ _ hL)
            have ut : RowsP A5 ts (rows3.take k) := hts.tk fun b xs hb => by
              obtain ⟨i', j', e⟩ := id le.pool
              exact x5 _ _ (ne_of hb e (fun z => by cases z)) ((s1.trans s2) _ _ hb)
            refine ⟨_, rfl, .inl ⟨by split <;> decide, by split <;> decide⟩, t2, _, rfl, SqL.of u2, fun M nM => ?_⟩
            generalize hg : upd A5 M _ = A6
            have s6 := sameOf nM hg
            have e6 := atOf hg
            clear hg
            rcases (show v = 0 ∨ v = 1 by omega) with rfl | rfl
            · rw [Int.mul_zero] at e6
              exact hN3 _ _ ⟨M, [], [], rfl, le5.same s6, s6 _ _ uL, ut.tk (.same s6), e6, .nil, .inl rfl⟩
            · by_cases hf : f + 1 ≤ m
              · rw [if_pos hf] at e6
                exact hN3 _ _ ⟨M, [t1], _, rfl, le5.same s6, s6 _ _ uL, ut.tk (.same s6), e6, .cons (r := (f + 1, "a", none, some 5)) (s6 _ _ u1) .nil, .inr ⟨rfl, hf⟩⟩
              · rw [if_neg hf] at e6
                exact hN3 _ _ ⟨M, [], [], rfl, le5.same s6, s6 _ _ uL, ut.tk (.same s6), e6, .nil, .inl rfl⟩
          clear le hL hts
          rintro σ' G9 ⟨M, cs, rs, rfl, le, hL, hts, hM, hcs, hrs⟩
          -- the entry
          refine seq_gen (fun σ' G => ∃ (s' : RS) (v : V) (e : En) (ct : Ct), σ' = [some (.ref pl), some (.ref ar), some (.int (0 + (i : Int))), some (.ref F), some (.ref R), some (.int m), some (.int n), some (.int w), some (.int f), some (.ref L), some (.ref M), w11, w12, w13] ∧ LE K H G pl ar F R (us ++ [v]) (es ++ [e]) s' (cts s) B (10 + 2 * i) ∧ G L = some (.lst (ts.map V.ref)) ∧ RowsP G ts (rows3.take k) ∧ s'.mom = m ∧ ct = ctOf ((rows3.take k).map some) ∧ cts s' = setS (cts s) n (some ct)) (fun N3 hN3 => ?_) ?_
          · walk_at "nm"
            refine ⟨_, rfl, isList le.jr.lst, ?_⟩
            walk_at "nm"
            refine ⟨_, SqL.of hL, fun B1 ra q1 nra fra => ⟨_, SqL.of (q1 _ _ hM), fun B2 ca q2 nca fca => ?_⟩⟩
            refine ⟨by rw [sizeLine_eq]; first | decide | simp, fun t nt => ?_⟩
            generalize hg : upd _ t _ = B3
            have q3 := sameOf nt hg
            have et := atOf hg
            clear hg
            have kk := q1.trans (q2.trans q3)
            have le3 := le.same kk
            obtain ⟨dx', fs', ha'⟩ := le3.arc
            have hr3 : FzT B3 ra (ts.map V.ref) := (fra.same q2).same q3
            have hc3 : FzT B3 ca (cs.map V.ref) := fca.same q3
            have hts3 := hts.tk (.same kk)
            have lt : ts.length ≤ 3 := by
              rw [hts.len]
              exact Nat.le_trans (List.length_take_le _ _) (by omega)
            have few3 : cs.length ≤ 1 ∧ (∀ r ∈ rs, r.2.1.length ≤ 1000 ∧ PyData.strOk r.2.1 = true) ∧ chsOk f (rs.map some) = true ∧ lastOf f rs ≤ m := by
              rcases hrs with rfl | ⟨rfl, hf⟩
              · cases hcs
                exact ⟨by simp, (fun r h => nomatch h), rfl, by show f ≤ m; omega⟩
              · rw [hcs.len]
                refine ⟨Nat.le_refl _, fun r h => ?_, ?_, hf⟩
                · rw [List.mem_singleton] at h
                  subst h
                  exact ⟨show (Str.ofString "a").length ≤ 1000 by decide +kernel, show PyData.strOk (Str.ofString "a") = true by decide +kernel⟩
                · show ((decide (f < f + 1) && (isKeyL (Str.ofString "a").cps.toList && true)) && true) = true
                  rw [decide_eq_true (by omega), show isKeyL (Str.ofString "a").cps.toList = true by decide +kernel]
                  rfl
            obtain ⟨lc, hs3, okc, hlast⟩ := few3
            have st := step_own (ar := ar) (f := f) (rws := (rows3.take k).map some) (chs := rs.map some) le.jr.ok (show s.mom ≤ m by omega) hn hs (by rw [chsOf_some]; exact hlast) (fun z hz => ct3_key k4 hz)
            have en := en_own_mk (K := K) et ha' (show 0 ≤ m by omega) (show 1 ≤ n by omega) f0 hr3 (rows_rw hts3 rows3_short) (by rw [List.length_map]; omega) (rws3_ok k k4) (.inr hc3) (rows_chv (hcs.tk (.same kk)) hs3) (by rw [List.length_map]; omega) okc
            refine ⟨F, _, _, rfl, rfl, le3.jr.lst, by rw [sizeLine_eq]; omega, ?_⟩
            generalize hg : upd B3 F _ = B4
            have x4 : Ex F B3 B4 := by
              rw [← hg]
              exact Ex.refl.upd
            have le4 := le3.note en st.1 st.2 (fun m' n' d' e => by cases e; rw [List.length_map, ← hcs.len]; exact lc) hg
            clear hg
            exact hN3 _ _ ⟨_, _, _, _, rfl, le4, x4 _ _ nLF (kk _ _ hL), hts3.tk fun b xs hb => x4 _ _ (ne_of hb le3.jr.lst (fun z => by cases z)) hb, rfl, rfl, cts_set⟩
          clear le hL hts hM hcs
          rintro σ' GA ⟨s', v, e, ct, rfl, le, hL, hts, sm, rfl, ec⟩
          dsimp only [sDPut]
          walk_at "nm"
          refine ⟨ts, SqL.of hL, kvR (rows3.take k), rowsP_pairs hts, fun D nD => ?_⟩
          generalize hg : upd GA D _ = GB
          have sB := sameOf nD hg
          have eD := atOf hg
          clear hg
          have leB := le.same sB
          obtain ⟨kvs, hR, _, lk⟩ := id leB.ls.dct
          refine ⟨_, DPut.k (k := .inl n) hR (by rw [sizeLine_eq]; omega), us ++ [v], es ++ [e], s', setS B n D, _, _, _, _, _, _, _, _, _, ⟨rfl, sm.symm, rfl, rfl, rfl, rfl, rfl, rfl, rfl, rfl⟩, ?_, by rw [List.length_append]; simp; omega, by omega⟩
          generalize hg : upd GB R _ = GC
          have xC : Ex R GB GC := by
            rw [← hg]
            exact Ex.refl.upd
          have rep := rep_rows (rows3.take k) [] _ Rep.nil
          have l3 : (mergeK [] (kvR (rows3.take k))).length ≤ 10 + 2 * i + 1 := by
            have := length_mergeK (kvR (rows3.take k)) []
            have h3 : (kvR (rows3.take k)).length ≤ 3 := by
              unfold kvR
              rw [List.length_map]
              exact Nat.le_trans (List.length_take_le _ _) (by omega)
            simp at this
            omega
          obtain ⟨kvs0, hR0, _, _⟩ := id le.ls.dct
          have ls := leB.ls.put (n := n) (le.free nD) eD rep l3 (fun j c hj => by
            obtain ⟨_, _, kv, hb, _⟩ := le.ls.sh j c hj
            exact ne_of_none hb nD) (ne_of_none hR0 nD).symm hR hg
          have leC := leB.dct hR le.nR xC ls
          rw [ec]
          exact leC.mono (by omega)
        | some h =>
          rw [show cts s n = some h.c by simp [cts, hs]]
          refine iteF ?_
          dsimp only [tIfS, tTest, tOp, tVar, tC]
          refine ⟨_, rfl, eqIs ⟨_, rfl, ?_⟩⟩
          by_cases hw : w = 0
          · rw [decide_eq_true hw]
            refine iteT ?_
            walk_at "nm"
            refine ⟨_, rfl, isList le.jr.lst, ?_⟩
            walk_at "nm"
            refine ⟨by rw [sizeLine_eq]; first | decide | simp, fun t nt => ?_⟩
            generalize hg : upd _ t _ = G7
            have s7 := sameOf nt hg
            have et := atOf hg
            clear hg
            have le7 := le.same s7
            have st := step_drop le.jr.ok (show s.mom ≤ m by omega) hs
            refine ⟨F, _, _, rfl, rfl, le7.jr.lst, by rw [sizeLine_eq]; omega, ?_⟩
            generalize hg : upd G7 F _ = G8
            have le8 := le7.note (.drop et (show 0 ≤ m by omega) (show 1 ≤ n by omega)) st.1 st.2 (fun m' n' d' e => by cases e) hg
            clear hg
            obtain ⟨kvs8, h8, hv8, lk8⟩ := id le8.ls.dct
            refine ⟨_, rfl, R, rfl, .inl ⟨kvs8, .inl h8⟩, _, rfl, kvs8, .inl n, _, h8, rfl, by rw [hv8 n]; simp [cts, hs]; rfl, ?_⟩
            generalize hg : upd G8 R _ = G9
            have x9 : Ex R G8 G9 := by
              rw [← hg]
              exact Ex.refl.upd
            have ls := le8.ls.drop (n := n) h8 hg
            have le9 := le8.dct h8 le.nR x9 ls
            have ec : cts ⟨m, setS s.sh n none⟩ = setS (cts s) n none := cts_set
            rw [← ec] at le9
            exact ⟨_, _, _, B, _, _, _, _, _, _, _, _, _, ⟨rfl, rfl, rfl, rfl, rfl, rfl, rfl, rfl, rfl, rfl⟩, le9.mono (by omega), by rw [List.length_append]; simp; omega, by show m ≤ _; omega⟩
          · rw [decide_eq_false hw]
            refine iteF ?_
            clear hR hval lk kvs
            refine seq_gen (fun σ' G => ∃ z : Str, σ' = [some (.ref pl), some (.ref ar), some (.int (0 + (i : Int))), some (.ref F), some (.ref R), some (.int m), some (.int n), some (.int w), w8, w9, w10, some (.str z), w12, w13] ∧ LE K H G pl ar F R us es s (cts s) B (10 + 2 * i) ∧ z ∈ abcd) (fun N3 hN3 => ?_) ?_
            · walk_at "nm"
              refine ⟨pl, 4, rfl, le.pool, by decide, by decide, fun v G v0 v1 hp x => ?_⟩
              obtain ⟨c, e1, e2⟩ := abcd_at v0 v1
              exact ⟨_, v, c, rfl, rfl, by decide +kernel, e1, hN3 _ _ ⟨_, rfl, le.ex' x hp, e2⟩⟩
            clear le
            rintro σ' G7 ⟨z, rfl, le, hz⟩
            obtain ⟨z1, z2, z3⟩ := abcd_ok z hz
            refine seq_gen (fun σ' G => σ' = [some (.ref pl), some (.ref ar), some (.int (0 + (i : Int))), some (.ref F), some (.ref R), some (.int m), some (.int n), some (.int w), w8, w9, w10, some (.str z), some (oV (h.c z)), w13] ∧ LE K H G pl ar F R us es s (cts s) B (10 + 2 * i)) (fun N3 hN3 => ?_) ?_
            · obtain ⟨kvs, hR, hval, lk⟩ := id le.ls.dct
              obtain ⟨nB, n0, kv, hB, rep, lkv⟩ := le.ls.sh n h.c (by simp [cts, hs])
              dsimp only [tAsg, tDGet1, tDGet, tVar]
              refine ⟨_, rfl, _, rfl, R, _, rfl, dget_of (k := .inl n) hR (by rw [hval n]; simp [cts, hs]), B n, rfl, .inl ⟨kv, .inl hB⟩, _, rfl, _, DGet.k (k := .inr z) hB, ?_⟩
              rw [rep.val z, oV_val]
              exact hN3 _ _ ⟨rfl, le⟩
            clear le
            rintro σ' G8 ⟨rfl, le⟩
            refine seq_gen (fun σ' G => ∃ nw : Option Int, σ' = [some (.ref pl), some (.ref ar), some (.int (0 + (i : Int))), some (.ref F), some (.ref R), some (.int m), some (.int n), some (.int w), w8, w9, w10, some (.str z), some (oV (h.c z)), some (oV nw)] ∧ LE K H G pl ar F R us es s (cts s) B (10 + 2 * i) ∧ ((h.c z).isSome || nw.isSome) = true) (fun N3 hN3 => ?_) ?_
            · walk_at "nm"
              have fin : ∀ (G : Hp) (o : Option Int), LE K H G pl ar F R us es s (cts s) B (10 + 2 * i) → ((h.c z).isSome || o.isSome) = true → ∀ u, u = some (oV o) → N3 [some (.ref pl), some (.ref ar), some (.int (0 + (i : Int))), some (.ref F), some (.ref R), some (.int m), some (.int n), some (.int w), w8, w9, w10, some (.str z), some (oV (h.c z)), u] G := fun G o l e w' ew => hN3 _ _ ⟨o, by rw [ew], l, e⟩
              clear hN3
              by_cases ho : h.c z = none
              · rw [if_neg (by simp [oV_non, ho])]
                exact ⟨pl, 9, rfl, le.pool, by decide, by decide, fun v G v0 v1 hp x => fin G (some v) (le.ex' x hp) (by simp) _ rfl⟩
              · rw [if_pos (by simp [oV_non, ho])]
                have hsome : (h.c z).isSome = true := by
                  cases e : h.c z with
                  | none => exact absurd e ho
                  | some _ => rfl
                refine ⟨pl, 2, rfl, le.pool, by decide, by decide, fun v G v0 v1 hp x => eqIs ⟨_, rfl, ?_⟩⟩
                have le2 := le.ex' x hp
                by_cases hv : v = 0
                · rw [decide_eq_true hv]
                  exact iteT (fin G none le2 (by rw [hsome]; rfl) _ rfl)
                · rw [decide_eq_false hv]
                  exact iteF ⟨pl, 9, rfl, le2.pool, by decide, by decide, fun v G v0 v1 hp x => fin G (some v) (le2.ex' x hp) (by rw [hsome]; rfl) _ rfl⟩
            clear le
            rintro σ' G9 ⟨nw, rfl, le, hnw⟩
            have st := step_chg (w := nw) le.jr.ok m1 hs rfl hz
            refine seq_gen (fun σ' G => ∃ v e, σ' = [some (.ref pl), some (.ref ar), some (.int (0 + (i : Int))), some (.ref F), some (.ref R), some (.int m), some (.int n), some (.int w), w8, w9, w10, some (.str z), some (oV (h.c z)), some (oV nw)] ∧ LE K H G pl ar F R (us ++ [v]) (es ++ [e]) ⟨m, setS s.sh n (some ⟨h.ar, updC h.c z nw, cutF 0 h.f (h.rs ++ [(m, z, h.c z, nw)]), cutR 0 (h.rs ++ [(m, z, h.c z, nw)])⟩)⟩ (cts s) B (10 + 2 * i)) (fun N3 hN3 => ?_) ?_
            · walk_at "nm"
              refine ⟨_, rfl, isList le.jr.lst, ?_⟩
              walk_at "nm"
              refine ⟨by rw [sizeLine_eq]; first | decide | simp, fun t nt => ?_⟩
              generalize hg : upd _ t _ = GA
              have sA := sameOf nt hg
              have et := atOf hg
              clear hg
              have leA := le.same sA
              have en := EnV.chg (K := K) (z := z) (o := h.c z) (w := nw) et (show 0 ≤ m by omega) (show 1 ≤ n by omega) z1 z2
              rw [if_pos (by unfold isChg; dsimp only; rw [decide_eq_true (show (-1 : Int) < m by omega), z3, hnw]; rfl)] at en
              refine ⟨F, _, _, rfl, rfl, leA.jr.lst, by rw [sizeLine_eq]; omega, ?_⟩
              generalize hg : upd GA F _ = GB
              exact hN3 _ _ ⟨_, _, rfl, leA.note en st.1 st.2 (fun m' n' d' e => by cases e) hg⟩
            clear le
            rintro σ' GA ⟨v, e, rfl, le⟩
            generalize hs2 : (⟨m, setS s.sh n (some ⟨h.ar, updC h.c z nw, cutF 0 h.f (h.rs ++ [(m, z, h.c z, nw)]), cutR 0 (h.rs ++ [(m, z, h.c z, nw)])⟩)⟩ : RS) = s2 at le
            have ms2 : s2.mom = m := by rw [← hs2]
            have cs2 : cts s2 = setS (cts s) n (some (updC h.c z nw)) := by
              rw [← hs2]
              exact cts_set
            clear hs2 st
            -- the old one goes
            refine seq_gen (fun σ' G => σ' = [some (.ref pl), some (.ref ar), some (.int (0 + (i : Int))), some (.ref F), some (.ref R), some (.int m), some (.int n), some (.int w), w8, w9, w10, some (.str z), some (oV (h.c z)), some (oV nw)] ∧ LE K H G pl ar F R (us ++ [v]) (es ++ [e]) s2 (setS (cts s) n (some (updC h.c z none))) B (10 + 2 * i + 1)) (fun N3 hN3 => ?_) ?_
            · obtain ⟨kvs, hR, hval, lk⟩ := id le.ls.dct
              have hc : cts s n = some h.c := by simp [cts, hs]
              obtain ⟨nB, n0, kv, hB, rep, lkv⟩ := le.ls.sh n h.c hc
              walk_at "nm"
              dsimp only [tDPop2, tDGet, tVar]
              refine ⟨_, rfl, _, rfl, R, _, rfl, dget_of (k := .inl n) hR (by rw [hval n, hc]; rfl), B n, rfl, .inl ⟨kv, .inl hB⟩, _, rfl, kv, .inr z, hB, rfl, fun x hx => ?_, fun hx => ?_⟩
              · generalize hg : upd GA (B n) _ = GB
                have xB : Ex (B n) GA GB := by
                  rw [← hg]
                  exact Ex.refl.upd
                have ls := le.ls.chg hc xB (atOf hg) (rep.drop z) (Nat.le_trans (List.length_filter_le _ _) (by omega))
                exact hN3 _ _ ⟨rfl, le.dct hB n0 xB ls⟩
              · have hz0 : h.c z = none := by
                  have := rep.val z
                  rw [hx] at this
                  cases e0 : h.c z with
                  | none => rfl
                  | some _ =>
                    rw [e0] at this
                    cases this
                have ls := le.ls.chg hc (Ex.refl (H := GA)) hB (rep.gone hz0) (by omega)
                exact hN3 _ _ ⟨rfl, le.dct hB n0 Ex.refl ls⟩
            clear le
            rintro σ' GB ⟨rfl, le⟩
            dsimp only [tIfS, tTest, tOp, tVar, tC]
            refine ⟨_, rfl, rfl, _, rfl, ?_⟩
            have lu : (us ++ [v]).length ≤ i + 1 := by
              rw [List.length_append]
              simp
              omega
            cases nw with
            | none =>
              refine iteF ?_
              rw [← cs2] at le
              exact ⟨_, _, s2, B, _, _, _, _, _, _, _, _, _, by rw [ms2], le.mono (by omega), lu, by omega⟩
            | some x =>
              refine iteT ?_
              obtain ⟨kvs, hR, hval, lk⟩ := id le.ls.dct
              obtain ⟨nB, n0, kv, hB, rep, lkv⟩ := le.ls.sh n (updC h.c z none) setS_same
              dsimp only [sDPut, tDGet, tVar]
              refine ⟨_, rfl, _, rfl, _, rfl, R, _, rfl, dget_of (k := .inl n) hR (by rw [hval n, setS_same]; rfl), _, rfl, B n, _, rfl, DPut.k (k := .inr z) hB (by rw [sizeLine_eq]; omega), ?_⟩
              generalize hg : upd GB (B n) _ = GC
              have xC : Ex (B n) GB GC := by
                rw [← hg]
                exact Ex.refl.upd
              have r2 := rep.put z x
              rw [updC_two] at r2
              have ls := le.ls.chg (c' := updC h.c z (some x)) setS_same xC (atOf hg) r2 (by have := length_putK kv (.inr z) (oV (some x)); omega)
              have leC := le.dct hB n0 xC ls
              have es2 : setS (setS (cts s) n (some (updC h.c z none))) n (some (updC h.c z (some x))) = cts s2 := by
                rw [cs2]
                funext j
                unfold setS
                split <;> rfl
              rw [es2] at leC
              exact ⟨_, _, s2, B, _, _, _, _, _, _, _, _, _, by rw [ms2], leC.mono (by omega), lu, by omega⟩
      · rintro σ' G3 ⟨us, es, s, B, w2, w6, w7, w8, w9, w10, w11, w12, w13, rfl, le, few, mom⟩
        exact hN2 _ _ ⟨us, es, s, B, _, _, _, _, _, _, _, _, _, rfl, le.mono (by omega), by omega, by omega⟩
    rintro σ' G2 ⟨us, es, s, B, w2, w6, w7, w8, w9, w10, w11, w12, w13, rfl, le, few, mom⟩
    walk_at "nm"
    exact q G2 F us es s le.ex le.nF le.pool le.jr few mom

def sp__law_forms (K : Frag) : Sp := fun vs H Q _ => ∃ (ar dx : Addr) (fs : List (Str × V)), vs = [.ref ar] ∧ H ar = some (.ins (ga K "Arc") dx fs) ∧ ∀ G l us cs, Same H G → G l = some (.lst us) → Paired (EnV K G) us cs → (∀ c ∈ cs, Refuses c) → us.length ≤ 60 → Q (.ref l) G
theorem sc__law_forms : FnScope ["_law_arc", "_law_own", "_law_odd"] ["_law_arc"] (defScope s__law_forms) := ⟨rfl, rfl, rfl, by decide +kernel, rfl, by decide +kernel, by decide +kernel⟩
theorem ok__law_forms {P : Program} {w : World} {K : Frag} {mg : Str → Option Value} {base : Heap} (T : Txt K mg) : FnB P w K mg base 1 (glA "_law_forms" K) (sp__law_forms K) := by
  refine okD (N := ["_law_arc", "_law_own", "_law_odd"]) (ps := ["_law_arc"]) (k := 0) (d := g__law_forms) T.d__law_forms rfl sc__law_forms (fun vs H Q E h => ?_) (fun _ _ _ _ _ _ us hl => match us, hl with | [_], _ => rfl) (fun A outer s H vs Q E hr h => ?_)
  · obtain ⟨ar, dx, fs, rfl, har, q⟩ := h
    rfl
  · have hu := hr.hu
    obtain ⟨ar, dx, fs, rfl, har, q⟩ := h
    refine ⟨_, PSs.nox ((pss_cons (ps_set (i := 1) sc__law_forms.nd rfl (Or.inl rfl) (pe_tup (pa_cons pe_str (pa_cons pe_int (pa_cons pe_int (pa_cons (pv 0) (pa_cons pe_int (pa_cons (pe_tup pa_nil) (pa_cons (pe_tup pa_nil) pa_nil)))))))))
      (pss_cons (ps_set (i := 2) sc__law_forms.nd rfl (Or.inl rfl) (pe_lst (pa_cons pe_non (pa_cons pe_int (pa_cons (pe_tup pa_nil) (pa_cons (pe_tup (pa_cons pe_str pa_nil)) (pa_cons (pe_callTy call_list_of (by rfl) T.b_list (by decide +kernel) (pa_cons (pv 1) pa_nil)) (pa_cons (pe_op op_catA (pv 1) (pe_tup (pa_cons pe_int pa_nil))) (pa_cons (pe_slice sl_tupA (pv 1) po_none (po_some pe_int)) (pa_cons (pe_op op_catA (pe_tup (pa_cons pe_str pa_nil)) (pe_slice sl_tupA (pv 1) (po_some pe_int) po_none)) (pa_cons (pe_op op_catA (pe_tup (pa_cons pe_non pa_nil)) (pe_slice sl_tupA (pv 1) (po_some pe_int) po_none)) pa_nil)))))))))))
      (pss_cons (ps_set (i := 2) sc__law_forms.nd rfl (Or.inl rfl) (pe_op op_cat (pv 2) (pe_lst (pa_cons (pe_tup (pa_cons pe_str (pa_cons pe_bl (pa_cons pe_int (pa_cons (pv 0) (pa_cons pe_int (pa_cons (pe_tup pa_nil) (pa_cons (pe_tup pa_nil) pa_nil)))))))) (pa_cons (pe_tup (pa_cons pe_str (pa_cons (pe_un un_neg pe_int) (pa_cons pe_int (pa_cons (pv 0) (pa_cons pe_int (pa_cons (pe_tup pa_nil) (pa_cons (pe_tup pa_nil) pa_nil)))))))) (pa_cons (pe_tup (pa_cons pe_str (pa_cons pe_int (pa_cons pe_int (pa_cons (pv 0) (pa_cons pe_int (pa_cons (pe_tup pa_nil) (pa_cons (pe_tup pa_nil) pa_nil)))))))) pa_nil))))))
      (pss_cons (ps_set (i := 2) sc__law_forms.nd rfl (Or.inl rfl) (pe_op op_cat (pv 2) (pe_lst (pa_cons (pe_tup (pa_cons pe_str (pa_cons pe_int (pa_cons pe_int (pa_cons pe_non (pa_cons pe_int (pa_cons (pe_tup pa_nil) (pa_cons (pe_tup pa_nil) pa_nil)))))))) (pa_cons (pe_tup (pa_cons pe_str (pa_cons pe_int (pa_cons pe_int (pa_cons (pv 0) (pa_cons (pe_un un_neg pe_int) (pa_cons (pe_tup pa_nil) (pa_cons (pe_tup pa_nil) pa_nil)))))))) (pa_cons (pe_tup (pa_cons pe_str (pa_cons pe_int (pa_cons pe_int (pa_cons (pv 0) (pa_cons pe_int (pa_cons (pe_lst pa_nil) (pa_cons (pe_tup pa_nil) pa_nil)))))))) pa_nil))))))
      (pss_cons (ps_set (i := 2) sc__law_forms.nd rfl (Or.inl rfl) (pe_op op_cat (pv 2) (pe_lst (pa_cons (pe_tup (pa_cons pe_str (pa_cons pe_int (pa_cons pe_int (pa_cons (pv 0) (pa_cons pe_int (pa_cons (pe_tup (pa_cons (pe_tup (pa_cons pe_str (pa_cons pe_int pa_nil))) (pa_cons (pe_tup (pa_cons pe_str (pa_cons pe_int pa_nil))) pa_nil))) (pa_cons (pe_tup pa_nil) pa_nil)))))))) (pa_cons (pe_tup (pa_cons pe_str (pa_cons pe_int (pa_cons pe_int (pa_cons (pv 0) (pa_cons pe_int (pa_cons (pe_tup (pa_cons (pe_tup (pa_cons pe_str (pa_cons pe_int pa_nil))) pa_nil)) (pa_cons (pe_tup pa_nil) pa_nil)))))))) pa_nil)))))
      (pss_cons (ps_set (i := 2) sc__law_forms.nd rfl (Or.inl rfl) (pe_op op_cat (pv 2) (pe_lst (pa_cons (pe_tup (pa_cons pe_str (pa_cons pe_int (pa_cons pe_int (pa_cons (pv 0) (pa_cons pe_int (pa_cons (pe_tup (pa_cons (pe_tup (pa_cons pe_str (pa_cons pe_bl pa_nil))) pa_nil)) (pa_cons (pe_tup pa_nil) pa_nil)))))))) (pa_cons (pe_tup (pa_cons pe_str (pa_cons pe_int (pa_cons pe_int (pa_cons (pv 0) (pa_cons pe_int (pa_cons (pe_tup (pa_cons (pe_lst (pa_cons pe_str (pa_cons pe_int pa_nil))) pa_nil)) (pa_cons (pe_tup pa_nil) pa_nil)))))))) (pa_cons (pe_tup (pa_cons pe_str (pa_cons pe_int pa_nil))) pa_nil))))))
      (pss_cons (ps_set (i := 2) sc__law_forms.nd rfl (Or.inl rfl) (pe_op op_cat (pv 2) (pe_lst (pa_cons (pe_tup (pa_cons pe_str (pa_cons pe_int (pa_cons pe_int (pa_cons (pv 0) (pa_cons pe_int (pa_cons (pe_tup pa_nil) (pa_cons (pe_tup (pa_cons (pe_tup (pa_cons pe_int (pa_cons pe_str (pa_cons pe_non (pa_cons pe_int pa_nil))))) pa_nil)) pa_nil)))))))) (pa_cons (pe_tup (pa_cons pe_str (pa_cons pe_int (pa_cons pe_int (pa_cons (pv 0) (pa_cons pe_int (pa_cons (pe_tup pa_nil) (pa_cons (pe_tup (pa_cons (pe_tup (pa_cons pe_int (pa_cons pe_str (pa_cons pe_int (pa_cons pe_int pa_nil))))) pa_nil)) pa_nil)))))))) pa_nil)))))
      (pss_cons (ps_set (i := 2) sc__law_forms.nd rfl (Or.inl rfl) (pe_op op_cat (pv 2) (pe_lst (pa_cons (pe_tup (pa_cons pe_str (pa_cons pe_int (pa_cons pe_int (pa_cons (pv 0) (pa_cons pe_int (pa_cons (pe_tup pa_nil) (pa_cons (pe_tup (pa_cons (pe_tup (pa_cons pe_int (pa_cons pe_str (pa_cons pe_int (pa_cons pe_int pa_nil))))) (pa_cons (pe_tup (pa_cons pe_int (pa_cons pe_str (pa_cons pe_int (pa_cons pe_int pa_nil))))) pa_nil))) pa_nil)))))))) (pa_cons (pe_tup (pa_cons pe_str (pa_cons pe_int (pa_cons pe_int (pa_cons pe_int pa_nil))))) (pa_cons (pe_tup (pa_cons pe_str (pa_cons pe_int (pa_cons pe_str pa_nil)))) pa_nil))))))
      (pss_cons (ps_set (i := 2) sc__law_forms.nd rfl (Or.inl rfl) (pe_op op_cat (pv 2) (pe_lst (pa_cons (pe_tup (pa_cons pe_str (pa_cons pe_int (pa_cons pe_int (pa_cons (pv 0) (pa_cons pe_int (pa_cons (pe_tup pa_nil) (pa_cons (pe_tup (pa_cons (pe_tup (pa_cons pe_int (pa_cons pe_str (pa_cons pe_non (pa_cons pe_non pa_nil))))) pa_nil)) pa_nil)))))))) (pa_cons (pe_tup (pa_cons pe_str (pa_cons pe_int (pa_cons pe_int (pa_cons (pv 0) (pa_cons pe_int (pa_cons (pe_tup pa_nil) (pa_cons (pe_tup (pa_cons (pe_lst (pa_cons pe_int (pa_cons pe_str (pa_cons pe_int (pa_cons pe_int pa_nil))))) pa_nil)) pa_nil)))))))) pa_nil)))))
      (pss_one (ps_ret (pe_op op_cat (pv 2) (pe_lst (pa_cons (pe_tup (pa_cons pe_str (pa_cons pe_int (pa_cons pe_int pa_nil)))) (pa_cons (pe_tup (pa_cons pe_str (pa_cons pe_int (pa_cons pe_int (pa_cons pe_str (pa_cons pe_non (pa_cons pe_int pa_nil))))))) (pa_cons (pe_op op_catA (pe_tup (pa_cons (pe_lst (pa_cons pe_str pa_nil)) pa_nil)) (pe_slice sl_tupA (pv 1) (po_some pe_int) po_none)) (pa_cons pe_str (pa_cons pe_dnewK pa_nil))))))))))))))))))), ?_⟩
    walk_at "nm"
    refine ⟨by rw [sizeLine_eq]; decide, fun Lp0 Ln0 => ?_⟩
    generalize hg : upd H Lp0 _ = LG0
    have Ls0 := sameOf Ln0 hg
    have Le0 : LG0 Lp0 = some (.tup []) := atOf hg
    clear hg
    refine ⟨by rw [sizeLine_eq]; decide, fun Lp1 Ln1 => ?_⟩
    generalize hg : upd LG0 Lp1 _ = LG1
    have Ls1 := sameOf Ln1 hg
    have Le1 : LG1 Lp1 = some (.tup []) := atOf hg
    clear hg
    refine ⟨by rw [sizeLine_eq]; decide, fun Lp2 Ln2 => ?_⟩
    generalize hg : upd LG1 Lp2 _ = LG2
    have Ls2 := sameOf Ln2 hg
    have Le2 : LG2 Lp2 = some (.tup [.str (Str.ofString "own"), .int 500, .int 7, .ref ar, .int 0, .ref Lp0, .ref Lp1]) := atOf hg
    clear hg
    refine ⟨by rw [sizeLine_eq]; decide, fun Lp3 Ln3 => ?_⟩
    generalize hg : upd LG2 Lp3 _ = LG3
    have Ls3 := sameOf Ln3 hg
    have Le3 : LG3 Lp3 = some (.tup []) := atOf hg
    clear hg
    refine ⟨by rw [sizeLine_eq]; decide, fun Lp4 Ln4 => ?_⟩
    generalize hg : upd LG3 Lp4 _ = LG4
    have Ls4 := sameOf Ln4 hg
    have Le4 : LG4 Lp4 = some (.tup [.str (Str.ofString "own")]) := atOf hg
    clear hg
    have Le2t := ((Ls3.trans Ls4) _ _ Le2)
    refine ⟨_, .inr (SqT.of Le2t), fun Lp5 Ln5 => ?_⟩
    generalize hg : upd LG4 Lp5 _ = LG5
    have Ls5 := sameOf Ln5 hg
    have Le5 : LG5 Lp5 = some (.lst [.str (Str.ofString "own"), .int 500, .int 7, .ref ar, .int 0, .ref Lp0, .ref Lp1]) := atOf hg
    clear hg
    refine ⟨by rw [sizeLine_eq]; decide, fun Lp6 Ln6 => ?_⟩
    generalize hg : upd LG5 Lp6 _ = LG6
    have Ls6 := sameOf Ln6 hg
    have Le6 : LG6 Lp6 = some (.tup [.int 1]) := atOf hg
    clear hg
    have Le2t := ((Ls5.trans Ls6) _ _ Le2t)
    refine ⟨_, _, _, _, rfl, rfl, SqT.of Le2t, SqT.of Le6, (by rw [sizeLine_eq]; simp), (fun z => by cases z), (fun _ z => by cases z), fun _ _ Lp7 Ln7 => ?_⟩
    generalize hg : upd LG6 Lp7 _ = LG7
    have Ls7 := sameOf Ln7 hg
    have Le7 : LG7 Lp7 = some (.tup [.str (Str.ofString "own"), .int 500, .int 7, .ref ar, .int 0, .ref Lp0, .ref Lp1, .int 1]) := atOf hg
    clear hg
    have Le2t := (Ls7 _ _ Le2t)
    refine ⟨_, _, rfl, SqT.of Le2t, (fun z => absurd z (show ¬ (HT.sIx 7 0 none = 0 ∧ HT.sIx 7 7 (some 6) = 7) from by decide)), fun _ Lp8 Ln8 => ?_⟩
    generalize hg : upd LG7 Lp8 _ = LG8
    have Ls8 := sameOf Ln8 hg
    have Le8 : LG8 Lp8 = some (.tup [.str (Str.ofString "own"), .int 500, .int 7, .ref ar, .int 0, .ref Lp0]) := atOf hg
    clear hg
    refine ⟨by rw [sizeLine_eq]; decide, fun Lp9 Ln9 => ?_⟩
    generalize hg : upd LG8 Lp9 _ = LG9
    have Ls9 := sameOf Ln9 hg
    have Le9 : LG9 Lp9 = some (.tup [.str (Str.ofString "have")]) := atOf hg
    clear hg
    have Le2t := ((Ls8.trans Ls9) _ _ Le2t)
    refine ⟨_, _, rfl, SqT.of Le2t, (fun z => absurd z (show ¬ (HT.sIx 7 0 (some 1) = 0 ∧ HT.sIx 7 7 none = 7) from by decide)), fun _ Lp10 Ln10 => ?_⟩
    generalize hg : upd LG9 Lp10 _ = LG10
    have Ls10 := sameOf Ln10 hg
    have Le10 : LG10 Lp10 = some (.tup [.int 500, .int 7, .ref ar, .int 0, .ref Lp0, .ref Lp1]) := atOf hg
    clear hg
    have Le9t := (Ls10 _ _ Le9)
    refine ⟨_, _, _, _, rfl, rfl, SqT.of Le9t, SqT.of Le10, (by rw [sizeLine_eq]; simp), (fun z => by cases z), (fun _ z => by cases z), fun _ _ Lp11 Ln11 => ?_⟩
    generalize hg : upd LG10 Lp11 _ = LG11
    have Ls11 := sameOf Ln11 hg
    have Le11 : LG11 Lp11 = some (.tup [.str (Str.ofString "have"), .int 500, .int 7, .ref ar, .int 0, .ref Lp0, .ref Lp1]) := atOf hg
    clear hg
    refine ⟨by rw [sizeLine_eq]; decide, fun Lp12 Ln12 => ?_⟩
    generalize hg : upd LG11 Lp12 _ = LG12
    have Ls12 := sameOf Ln12 hg
    have Le12 : LG12 Lp12 = some (.tup [.non]) := atOf hg
    clear hg
    have Le2t := ((Ls10.trans (Ls11.trans Ls12)) _ _ Le2t)
    refine ⟨_, _, rfl, SqT.of Le2t, (fun z => absurd z (show ¬ (HT.sIx 7 0 (some 1) = 0 ∧ HT.sIx 7 7 none = 7) from by decide)), fun _ Lp13 Ln13 => ?_⟩
    generalize hg : upd LG12 Lp13 _ = LG13
    have Ls13 := sameOf Ln13 hg
    have Le13 : LG13 Lp13 = some (.tup [.int 500, .int 7, .ref ar, .int 0, .ref Lp0, .ref Lp1]) := atOf hg
    clear hg
    have Le12t := (Ls13 _ _ Le12)
    refine ⟨_, _, _, _, rfl, rfl, SqT.of Le12t, SqT.of Le13, (by rw [sizeLine_eq]; simp), (fun z => by cases z), (fun _ z => by cases z), fun _ _ Lp14 Ln14 => ?_⟩
    generalize hg : upd LG13 Lp14 _ = LG14
    have Ls14 := sameOf Ln14 hg
    have Le14 : LG14 Lp14 = some (.tup [.non, .int 500, .int 7, .ref ar, .int 0, .ref Lp0, .ref Lp1]) := atOf hg
    clear hg
    refine ⟨by rw [sizeLine_eq]; decide, fun Lp15 Ln15 => ?_⟩
    generalize hg : upd LG14 Lp15 _ = LG15
    have Ls15 := sameOf Ln15 hg
    have Le15 : LG15 Lp15 = some (.lst [.non, .int 5, .ref Lp3, .ref Lp4, .ref Lp5, .ref Lp7, .ref Lp8, .ref Lp11, .ref Lp14]) := atOf hg
    clear hg
    refine ⟨by rw [sizeLine_eq]; decide, fun Lp16 Ln16 => ?_⟩
    generalize hg : upd LG15 Lp16 _ = LG16
    have Ls16 := sameOf Ln16 hg
    have Le16 : LG16 Lp16 = some (.tup []) := atOf hg
    clear hg
    refine ⟨by rw [sizeLine_eq]; decide, fun Lp17 Ln17 => ?_⟩
    generalize hg : upd LG16 Lp17 _ = LG17
    have Ls17 := sameOf Ln17 hg
    have Le17 : LG17 Lp17 = some (.tup []) := atOf hg
    clear hg
    refine ⟨by rw [sizeLine_eq]; decide, fun Lp18 Ln18 => ?_⟩
    generalize hg : upd LG17 Lp18 _ = LG18
    have Ls18 := sameOf Ln18 hg
    have Le18 : LG18 Lp18 = some (.tup [.str (Str.ofString "own"), .bl true, .int 7, .ref ar, .int 0, .ref Lp16, .ref Lp17]) := atOf hg
    clear hg
    refine ⟨_, rfl, ?_⟩
    refine ⟨by rw [sizeLine_eq]; decide, fun Lp19 Ln19 => ?_⟩
    generalize hg : upd LG18 Lp19 _ = LG19
    have Ls19 := sameOf Ln19 hg
    have Le19 : LG19 Lp19 = some (.tup []) := atOf hg
    clear hg
    refine ⟨by rw [sizeLine_eq]; decide, fun Lp20 Ln20 => ?_⟩
    generalize hg : upd LG19 Lp20 _ = LG20
    have Ls20 := sameOf Ln20 hg
    have Le20 : LG20 Lp20 = some (.tup []) := atOf hg
    clear hg
    refine ⟨by rw [sizeLine_eq]; decide, fun Lp21 Ln21 => ?_⟩
    generalize hg : upd LG20 Lp21 _ = LG21
    have Ls21 := sameOf Ln21 hg
    have Le21 : LG21 Lp21 = some (.tup [.str (Str.ofString "own"), .int (-1), .int 7, .ref ar, .int 0, .ref Lp19, .ref Lp20]) := atOf hg
    clear hg
    refine ⟨by rw [sizeLine_eq]; decide, fun Lp22 Ln22 => ?_⟩
    generalize hg : upd LG21 Lp22 _ = LG22
    have Ls22 := sameOf Ln22 hg
    have Le22 : LG22 Lp22 = some (.tup []) := atOf hg
    clear hg
    refine ⟨by rw [sizeLine_eq]; decide, fun Lp23 Ln23 => ?_⟩
    generalize hg : upd LG22 Lp23 _ = LG23
    have Ls23 := sameOf Ln23 hg
    have Le23 : LG23 Lp23 = some (.tup []) := atOf hg
    clear hg
    refine ⟨by rw [sizeLine_eq]; decide, fun Lp24 Ln24 => ?_⟩
    generalize hg : upd LG23 Lp24 _ = LG24
    have Ls24 := sameOf Ln24 hg
    have Le24 : LG24 Lp24 = some (.tup [.str (Str.ofString "own"), .int 500, .int 0, .ref ar, .int 0, .ref Lp22, .ref Lp23]) := atOf hg
    clear hg
    refine ⟨by rw [sizeLine_eq]; decide, fun Lp25 Ln25 => ?_⟩
    generalize hg : upd LG24 Lp25 _ = LG25
    have Ls25 := sameOf Ln25 hg
    have Le25 : LG25 Lp25 = some (.lst [.ref Lp18, .ref Lp21, .ref Lp24]) := atOf hg
    clear hg
    have Le15t := ((Ls16.trans (Ls17.trans (Ls18.trans (Ls19.trans (Ls20.trans (Ls21.trans (Ls22.trans (Ls23.trans (Ls24.trans Ls25))))))))) _ _ Le15)
    refine ⟨_, _, _, _, rfl, rfl, Le15t, Le25, (by rw [sizeLine_eq]; simp), fun Lp26 Ln26 => ?_⟩
    generalize hg : upd LG25 Lp26 _ = LG26
    have Ls26 := sameOf Ln26 hg
    have Le26 : LG26 Lp26 = some (.lst [.non, .int 5, .ref Lp3, .ref Lp4, .ref Lp5, .ref Lp7, .ref Lp8, .ref Lp11, .ref Lp14, .ref Lp18, .ref Lp21, .ref Lp24]) := atOf hg
    clear hg
    refine ⟨by rw [sizeLine_eq]; decide, fun Lp27 Ln27 => ?_⟩
    generalize hg : upd LG26 Lp27 _ = LG27
    have Ls27 := sameOf Ln27 hg
    have Le27 : LG27 Lp27 = some (.tup []) := atOf hg
    clear hg
    refine ⟨by rw [sizeLine_eq]; decide, fun Lp28 Ln28 => ?_⟩
    generalize hg : upd LG27 Lp28 _ = LG28
    have Ls28 := sameOf Ln28 hg
    have Le28 : LG28 Lp28 = some (.tup []) := atOf hg
    clear hg
    refine ⟨by rw [sizeLine_eq]; decide, fun Lp29 Ln29 => ?_⟩
    generalize hg : upd LG28 Lp29 _ = LG29
    have Ls29 := sameOf Ln29 hg
    have Le29 : LG29 Lp29 = some (.tup [.str (Str.ofString "own"), .int 500, .int 7, .non, .int 0, .ref Lp27, .ref Lp28]) := atOf hg
    clear hg
    refine ⟨_, rfl, ?_⟩
    refine ⟨by rw [sizeLine_eq]; decide, fun Lp30 Ln30 => ?_⟩
    generalize hg : upd LG29 Lp30 _ = LG30
    have Ls30 := sameOf Ln30 hg
    have Le30 : LG30 Lp30 = some (.tup []) := atOf hg
    clear hg
    refine ⟨by rw [sizeLine_eq]; decide, fun Lp31 Ln31 => ?_⟩
    generalize hg : upd LG30 Lp31 _ = LG31
    have Ls31 := sameOf Ln31 hg
    have Le31 : LG31 Lp31 = some (.tup []) := atOf hg
    clear hg
    refine ⟨by rw [sizeLine_eq]; decide, fun Lp32 Ln32 => ?_⟩
    generalize hg : upd LG31 Lp32 _ = LG32
    have Ls32 := sameOf Ln32 hg
    have Le32 : LG32 Lp32 = some (.tup [.str (Str.ofString "own"), .int 500, .int 7, .ref ar, .int (-1), .ref Lp30, .ref Lp31]) := atOf hg
    clear hg
    refine ⟨by rw [sizeLine_eq]; decide, fun Lp33 Ln33 => ?_⟩
    generalize hg : upd LG32 Lp33 _ = LG33
    have Ls33 := sameOf Ln33 hg
    have Le33 : LG33 Lp33 = some (.lst []) := atOf hg
    clear hg
    refine ⟨by rw [sizeLine_eq]; decide, fun Lp34 Ln34 => ?_⟩
    generalize hg : upd LG33 Lp34 _ = LG34
    have Ls34 := sameOf Ln34 hg
    have Le34 : LG34 Lp34 = some (.tup []) := atOf hg
    clear hg
    refine ⟨by rw [sizeLine_eq]; decide, fun Lp35 Ln35 => ?_⟩
    generalize hg : upd LG34 Lp35 _ = LG35
    have Ls35 := sameOf Ln35 hg
    have Le35 : LG35 Lp35 = some (.tup [.str (Str.ofString "own"), .int 500, .int 7, .ref ar, .int 0, .ref Lp33, .ref Lp34]) := atOf hg
    clear hg
    refine ⟨by rw [sizeLine_eq]; decide, fun Lp36 Ln36 => ?_⟩
    generalize hg : upd LG35 Lp36 _ = LG36
    have Ls36 := sameOf Ln36 hg
    have Le36 : LG36 Lp36 = some (.lst [.ref Lp29, .ref Lp32, .ref Lp35]) := atOf hg
    clear hg
    have Le26t := ((Ls27.trans (Ls28.trans (Ls29.trans (Ls30.trans (Ls31.trans (Ls32.trans (Ls33.trans (Ls34.trans (Ls35.trans Ls36))))))))) _ _ Le26)
    refine ⟨_, _, _, _, rfl, rfl, Le26t, Le36, (by rw [sizeLine_eq]; simp), fun Lp37 Ln37 => ?_⟩
    generalize hg : upd LG36 Lp37 _ = LG37
    have Ls37 := sameOf Ln37 hg
    have Le37 : LG37 Lp37 = some (.lst [.non, .int 5, .ref Lp3, .ref Lp4, .ref Lp5, .ref Lp7, .ref Lp8, .ref Lp11, .ref Lp14, .ref Lp18, .ref Lp21, .ref Lp24, .ref Lp29, .ref Lp32, .ref Lp35]) := atOf hg
    clear hg
    refine ⟨by rw [sizeLine_eq]; decide, fun Lp38 Ln38 => ?_⟩
    generalize hg : upd LG37 Lp38 _ = LG38
    have Ls38 := sameOf Ln38 hg
    have Le38 : LG38 Lp38 = some (.tup [.str (Str.ofString "a"), .int 1]) := atOf hg
    clear hg
    refine ⟨by rw [sizeLine_eq]; decide, fun Lp39 Ln39 => ?_⟩
    generalize hg : upd LG38 Lp39 _ = LG39
    have Ls39 := sameOf Ln39 hg
    have Le39 : LG39 Lp39 = some (.tup [.str (Str.ofString "a"), .int 2]) := atOf hg
    clear hg
    refine ⟨by rw [sizeLine_eq]; decide, fun Lp40 Ln40 => ?_⟩
    generalize hg : upd LG39 Lp40 _ = LG40
    have Ls40 := sameOf Ln40 hg
    have Le40 : LG40 Lp40 = some (.tup [.ref Lp38, .ref Lp39]) := atOf hg
    clear hg
    refine ⟨by rw [sizeLine_eq]; decide, fun Lp41 Ln41 => ?_⟩
    generalize hg : upd LG40 Lp41 _ = LG41
    have Ls41 := sameOf Ln41 hg
    have Le41 : LG41 Lp41 = some (.tup []) := atOf hg
    clear hg
    refine ⟨by rw [sizeLine_eq]; decide, fun Lp42 Ln42 => ?_⟩
    generalize hg : upd LG41 Lp42 _ = LG42
    have Ls42 := sameOf Ln42 hg
    have Le42 : LG42 Lp42 = some (.tup [.str (Str.ofString "own"), .int 500, .int 7, .ref ar, .int 0, .ref Lp40, .ref Lp41]) := atOf hg
    clear hg
    refine ⟨by rw [sizeLine_eq]; decide, fun Lp43 Ln43 => ?_⟩
    generalize hg : upd LG42 Lp43 _ = LG43
    have Ls43 := sameOf Ln43 hg
    have Le43 : LG43 Lp43 = some (.tup [.str (Str.ofString "A"), .int 1]) := atOf hg
    clear hg
    refine ⟨by rw [sizeLine_eq]; decide, fun Lp44 Ln44 => ?_⟩
    generalize hg : upd LG43 Lp44 _ = LG44
    have Ls44 := sameOf Ln44 hg
    have Le44 : LG44 Lp44 = some (.tup [.ref Lp43]) := atOf hg
    clear hg
    refine ⟨by rw [sizeLine_eq]; decide, fun Lp45 Ln45 => ?_⟩
    generalize hg : upd LG44 Lp45 _ = LG45
    have Ls45 := sameOf Ln45 hg
    have Le45 : LG45 Lp45 = some (.tup []) := atOf hg
    clear hg
    refine ⟨by rw [sizeLine_eq]; decide, fun Lp46 Ln46 => ?_⟩
    generalize hg : upd LG45 Lp46 _ = LG46
    have Ls46 := sameOf Ln46 hg
    have Le46 : LG46 Lp46 = some (.tup [.str (Str.ofString "own"), .int 500, .int 7, .ref ar, .int 0, .ref Lp44, .ref Lp45]) := atOf hg
    clear hg
    refine ⟨by rw [sizeLine_eq]; decide, fun Lp47 Ln47 => ?_⟩
    generalize hg : upd LG46 Lp47 _ = LG47
    have Ls47 := sameOf Ln47 hg
    have Le47 : LG47 Lp47 = some (.lst [.ref Lp42, .ref Lp46]) := atOf hg
    clear hg
    have Le37t := ((Ls38.trans (Ls39.trans (Ls40.trans (Ls41.trans (Ls42.trans (Ls43.trans (Ls44.trans (Ls45.trans (Ls46.trans Ls47))))))))) _ _ Le37)
    refine ⟨_, _, _, _, rfl, rfl, Le37t, Le47, (by rw [sizeLine_eq]; simp), fun Lp48 Ln48 => ?_⟩
    generalize hg : upd LG47 Lp48 _ = LG48
    have Ls48 := sameOf Ln48 hg
    have Le48 : LG48 Lp48 = some (.lst [.non, .int 5, .ref Lp3, .ref Lp4, .ref Lp5, .ref Lp7, .ref Lp8, .ref Lp11, .ref Lp14, .ref Lp18, .ref Lp21, .ref Lp24, .ref Lp29, .ref Lp32, .ref Lp35, .ref Lp42, .ref Lp46]) := atOf hg
    clear hg
    refine ⟨by rw [sizeLine_eq]; decide, fun Lp49 Ln49 => ?_⟩
    generalize hg : upd LG48 Lp49 _ = LG49
    have Ls49 := sameOf Ln49 hg
    have Le49 : LG49 Lp49 = some (.tup [.str (Str.ofString "a"), .bl true]) := atOf hg
    clear hg
    refine ⟨by rw [sizeLine_eq]; decide, fun Lp50 Ln50 => ?_⟩
    generalize hg : upd LG49 Lp50 _ = LG50
    have Ls50 := sameOf Ln50 hg
    have Le50 : LG50 Lp50 = some (.tup [.ref Lp49]) := atOf hg
    clear hg
    refine ⟨by rw [sizeLine_eq]; decide, fun Lp51 Ln51 => ?_⟩
    generalize hg : upd LG50 Lp51 _ = LG51
    have Ls51 := sameOf Ln51 hg
    have Le51 : LG51 Lp51 = some (.tup []) := atOf hg
    clear hg
    refine ⟨by rw [sizeLine_eq]; decide, fun Lp52 Ln52 => ?_⟩
    generalize hg : upd LG51 Lp52 _ = LG52
    have Ls52 := sameOf Ln52 hg
    have Le52 : LG52 Lp52 = some (.tup [.str (Str.ofString "own"), .int 500, .int 7, .ref ar, .int 0, .ref Lp50, .ref Lp51]) := atOf hg
    clear hg
    refine ⟨by rw [sizeLine_eq]; decide, fun Lp53 Ln53 => ?_⟩
    generalize hg : upd LG52 Lp53 _ = LG53
    have Ls53 := sameOf Ln53 hg
    have Le53 : LG53 Lp53 = some (.lst [.str (Str.ofString "a"), .int 1]) := atOf hg
    clear hg
    refine ⟨by rw [sizeLine_eq]; decide, fun Lp54 Ln54 => ?_⟩
    generalize hg : upd LG53 Lp54 _ = LG54
    have Ls54 := sameOf Ln54 hg
    have Le54 : LG54 Lp54 = some (.tup [.ref Lp53]) := atOf hg
    clear hg
    refine ⟨by rw [sizeLine_eq]; decide, fun Lp55 Ln55 => ?_⟩
    generalize hg : upd LG54 Lp55 _ = LG55
    have Ls55 := sameOf Ln55 hg
    have Le55 : LG55 Lp55 = some (.tup []) := atOf hg
    clear hg
    refine ⟨by rw [sizeLine_eq]; decide, fun Lp56 Ln56 => ?_⟩
    generalize hg : upd LG55 Lp56 _ = LG56
    have Ls56 := sameOf Ln56 hg
    have Le56 : LG56 Lp56 = some (.tup [.str (Str.ofString "own"), .int 500, .int 7, .ref ar, .int 0, .ref Lp54, .ref Lp55]) := atOf hg
    clear hg
    refine ⟨by rw [sizeLine_eq]; decide, fun Lp57 Ln57 => ?_⟩
    generalize hg : upd LG56 Lp57 _ = LG57
    have Ls57 := sameOf Ln57 hg
    have Le57 : LG57 Lp57 = some (.tup [.str (Str.ofString "drop"), .int 500]) := atOf hg
    clear hg
    refine ⟨by rw [sizeLine_eq]; decide, fun Lp58 Ln58 => ?_⟩
    generalize hg : upd LG57 Lp58 _ = LG58
    have Ls58 := sameOf Ln58 hg
    have Le58 : LG58 Lp58 = some (.lst [.ref Lp52, .ref Lp56, .ref Lp57]) := atOf hg
    clear hg
    have Le48t := ((Ls49.trans (Ls50.trans (Ls51.trans (Ls52.trans (Ls53.trans (Ls54.trans (Ls55.trans (Ls56.trans (Ls57.trans Ls58))))))))) _ _ Le48)
    refine ⟨_, _, _, _, rfl, rfl, Le48t, Le58, (by rw [sizeLine_eq]; simp), fun Lp59 Ln59 => ?_⟩
    generalize hg : upd LG58 Lp59 _ = LG59
    have Ls59 := sameOf Ln59 hg
    have Le59 : LG59 Lp59 = some (.lst [.non, .int 5, .ref Lp3, .ref Lp4, .ref Lp5, .ref Lp7, .ref Lp8, .ref Lp11, .ref Lp14, .ref Lp18, .ref Lp21, .ref Lp24, .ref Lp29, .ref Lp32, .ref Lp35, .ref Lp42, .ref Lp46, .ref Lp52, .ref Lp56, .ref Lp57]) := atOf hg
    clear hg
    refine ⟨by rw [sizeLine_eq]; decide, fun Lp60 Ln60 => ?_⟩
    generalize hg : upd LG59 Lp60 _ = LG60
    have Ls60 := sameOf Ln60 hg
    have Le60 : LG60 Lp60 = some (.tup []) := atOf hg
    clear hg
    refine ⟨by rw [sizeLine_eq]; decide, fun Lp61 Ln61 => ?_⟩
    generalize hg : upd LG60 Lp61 _ = LG61
    have Ls61 := sameOf Ln61 hg
    have Le61 : LG61 Lp61 = some (.tup [.int 0, .str (Str.ofString "a"), .non, .int 1]) := atOf hg
    clear hg
    refine ⟨by rw [sizeLine_eq]; decide, fun Lp62 Ln62 => ?_⟩
    generalize hg : upd LG61 Lp62 _ = LG62
    have Ls62 := sameOf Ln62 hg
    have Le62 : LG62 Lp62 = some (.tup [.ref Lp61]) := atOf hg
    clear hg
    refine ⟨by rw [sizeLine_eq]; decide, fun Lp63 Ln63 => ?_⟩
    generalize hg : upd LG62 Lp63 _ = LG63
    have Ls63 := sameOf Ln63 hg
    have Le63 : LG63 Lp63 = some (.tup [.str (Str.ofString "own"), .int 500, .int 7, .ref ar, .int 0, .ref Lp60, .ref Lp62]) := atOf hg
    clear hg
    refine ⟨by rw [sizeLine_eq]; decide, fun Lp64 Ln64 => ?_⟩
    generalize hg : upd LG63 Lp64 _ = LG64
    have Ls64 := sameOf Ln64 hg
    have Le64 : LG64 Lp64 = some (.tup []) := atOf hg
    clear hg
    refine ⟨by rw [sizeLine_eq]; decide, fun Lp65 Ln65 => ?_⟩
    generalize hg : upd LG64 Lp65 _ = LG65
    have Ls65 := sameOf Ln65 hg
    have Le65 : LG65 Lp65 = some (.tup [.int 3, .str (Str.ofString "a"), .int 1, .int 2]) := atOf hg
    clear hg
    refine ⟨by rw [sizeLine_eq]; decide, fun Lp66 Ln66 => ?_⟩
    generalize hg : upd LG65 Lp66 _ = LG66
    have Ls66 := sameOf Ln66 hg
    have Le66 : LG66 Lp66 = some (.tup [.ref Lp65]) := atOf hg
    clear hg
    refine ⟨by rw [sizeLine_eq]; decide, fun Lp67 Ln67 => ?_⟩
    generalize hg : upd LG66 Lp67 _ = LG67
    have Ls67 := sameOf Ln67 hg
    have Le67 : LG67 Lp67 = some (.tup [.str (Str.ofString "own"), .int 500, .int 7, .ref ar, .int 3, .ref Lp64, .ref Lp66]) := atOf hg
    clear hg
    refine ⟨by rw [sizeLine_eq]; decide, fun Lp68 Ln68 => ?_⟩
    generalize hg : upd LG67 Lp68 _ = LG68
    have Ls68 := sameOf Ln68 hg
    have Le68 : LG68 Lp68 = some (.lst [.ref Lp63, .ref Lp67]) := atOf hg
    clear hg
    have Le59t := ((Ls60.trans (Ls61.trans (Ls62.trans (Ls63.trans (Ls64.trans (Ls65.trans (Ls66.trans (Ls67.trans Ls68)))))))) _ _ Le59)
    refine ⟨_, _, _, _, rfl, rfl, Le59t, Le68, (by rw [sizeLine_eq]; simp), fun Lp69 Ln69 => ?_⟩
    generalize hg : upd LG68 Lp69 _ = LG69
    have Ls69 := sameOf Ln69 hg
    have Le69 : LG69 Lp69 = some (.lst [.non, .int 5, .ref Lp3, .ref Lp4, .ref Lp5, .ref Lp7, .ref Lp8, .ref Lp11, .ref Lp14, .ref Lp18, .ref Lp21, .ref Lp24, .ref Lp29, .ref Lp32, .ref Lp35, .ref Lp42, .ref Lp46, .ref Lp52, .ref Lp56, .ref Lp57, .ref Lp63, .ref Lp67]) := atOf hg
    clear hg
    refine ⟨by rw [sizeLine_eq]; decide, fun Lp70 Ln70 => ?_⟩
    generalize hg : upd LG69 Lp70 _ = LG70
    have Ls70 := sameOf Ln70 hg
    have Le70 : LG70 Lp70 = some (.tup []) := atOf hg
    clear hg
    refine ⟨by rw [sizeLine_eq]; decide, fun Lp71 Ln71 => ?_⟩
    generalize hg : upd LG70 Lp71 _ = LG71
    have Ls71 := sameOf Ln71 hg
    have Le71 : LG71 Lp71 = some (.tup [.int 2, .str (Str.ofString "a"), .int 1, .int 2]) := atOf hg
    clear hg
    refine ⟨by rw [sizeLine_eq]; decide, fun Lp72 Ln72 => ?_⟩
    generalize hg : upd LG71 Lp72 _ = LG72
    have Ls72 := sameOf Ln72 hg
    have Le72 : LG72 Lp72 = some (.tup [.int 2, .str (Str.ofString "b"), .int 1, .int 2]) := atOf hg
    clear hg
    refine ⟨by rw [sizeLine_eq]; decide, fun Lp73 Ln73 => ?_⟩
    generalize hg : upd LG72 Lp73 _ = LG73
    have Ls73 := sameOf Ln73 hg
    have Le73 : LG73 Lp73 = some (.tup [.ref Lp71, .ref Lp72]) := atOf hg
    clear hg
    refine ⟨by rw [sizeLine_eq]; decide, fun Lp74 Ln74 => ?_⟩
    generalize hg : upd LG73 Lp74 _ = LG74
    have Ls74 := sameOf Ln74 hg
    have Le74 : LG74 Lp74 = some (.tup [.str (Str.ofString "own"), .int 500, .int 7, .ref ar, .int 0, .ref Lp70, .ref Lp73]) := atOf hg
    clear hg
    refine ⟨by rw [sizeLine_eq]; decide, fun Lp75 Ln75 => ?_⟩
    generalize hg : upd LG74 Lp75 _ = LG75
    have Ls75 := sameOf Ln75 hg
    have Le75 : LG75 Lp75 = some (.tup [.str (Str.ofString "drop"), .int 500, .int 8, .int 9]) := atOf hg
    clear hg
    refine ⟨by rw [sizeLine_eq]; decide, fun Lp76 Ln76 => ?_⟩
    generalize hg : upd LG75 Lp76 _ = LG76
    have Ls76 := sameOf Ln76 hg
    have Le76 : LG76 Lp76 = some (.tup [.str (Str.ofString "drop"), .int 500, .str (Str.ofString "8")]) := atOf hg
    clear hg
    refine ⟨by rw [sizeLine_eq]; decide, fun Lp77 Ln77 => ?_⟩
    generalize hg : upd LG76 Lp77 _ = LG77
    have Ls77 := sameOf Ln77 hg
    have Le77 : LG77 Lp77 = some (.lst [.ref Lp74, .ref Lp75, .ref Lp76]) := atOf hg
    clear hg
    have Le69t := ((Ls70.trans (Ls71.trans (Ls72.trans (Ls73.trans (Ls74.trans (Ls75.trans (Ls76.trans Ls77))))))) _ _ Le69)
    refine ⟨_, _, _, _, rfl, rfl, Le69t, Le77, (by rw [sizeLine_eq]; simp), fun Lp78 Ln78 => ?_⟩
    generalize hg : upd LG77 Lp78 _ = LG78
    have Ls78 := sameOf Ln78 hg
    have Le78 : LG78 Lp78 = some (.lst [.non, .int 5, .ref Lp3, .ref Lp4, .ref Lp5, .ref Lp7, .ref Lp8, .ref Lp11, .ref Lp14, .ref Lp18, .ref Lp21, .ref Lp24, .ref Lp29, .ref Lp32, .ref Lp35, .ref Lp42, .ref Lp46, .ref Lp52, .ref Lp56, .ref Lp57, .ref Lp63, .ref Lp67, .ref Lp74, .ref Lp75, .ref Lp76]) := atOf hg
    clear hg
    refine ⟨by rw [sizeLine_eq]; decide, fun Lp79 Ln79 => ?_⟩
    generalize hg : upd LG78 Lp79 _ = LG79
    have Ls79 := sameOf Ln79 hg
    have Le79 : LG79 Lp79 = some (.tup []) := atOf hg
    clear hg
    refine ⟨by rw [sizeLine_eq]; decide, fun Lp80 Ln80 => ?_⟩
    generalize hg : upd LG79 Lp80 _ = LG80
    have Ls80 := sameOf Ln80 hg
    have Le80 : LG80 Lp80 = some (.tup [.int 2, .str (Str.ofString "a"), .non, .non]) := atOf hg
    clear hg
    refine ⟨by rw [sizeLine_eq]; decide, fun Lp81 Ln81 => ?_⟩
    generalize hg : upd LG80 Lp81 _ = LG81
    have Ls81 := sameOf Ln81 hg
    have Le81 : LG81 Lp81 = some (.tup [.ref Lp80]) := atOf hg
    clear hg
    refine ⟨by rw [sizeLine_eq]; decide, fun Lp82 Ln82 => ?_⟩
    generalize hg : upd LG81 Lp82 _ = LG82
    have Ls82 := sameOf Ln82 hg
    have Le82 : LG82 Lp82 = some (.tup [.str (Str.ofString "own"), .int 500, .int 7, .ref ar, .int 0, .ref Lp79, .ref Lp81]) := atOf hg
    clear hg
    refine ⟨by rw [sizeLine_eq]; decide, fun Lp83 Ln83 => ?_⟩
    generalize hg : upd LG82 Lp83 _ = LG83
    have Ls83 := sameOf Ln83 hg
    have Le83 : LG83 Lp83 = some (.tup []) := atOf hg
    clear hg
    refine ⟨by rw [sizeLine_eq]; decide, fun Lp84 Ln84 => ?_⟩
    generalize hg : upd LG83 Lp84 _ = LG84
    have Ls84 := sameOf Ln84 hg
    have Le84 : LG84 Lp84 = some (.lst [.int 2, .str (Str.ofString "a"), .int 1, .int 2]) := atOf hg
    clear hg
    refine ⟨by rw [sizeLine_eq]; decide, fun Lp85 Ln85 => ?_⟩
    generalize hg : upd LG84 Lp85 _ = LG85
    have Ls85 := sameOf Ln85 hg
    have Le85 : LG85 Lp85 = some (.tup [.ref Lp84]) := atOf hg
    clear hg
    refine ⟨by rw [sizeLine_eq]; decide, fun Lp86 Ln86 => ?_⟩
    generalize hg : upd LG85 Lp86 _ = LG86
    have Ls86 := sameOf Ln86 hg
    have Le86 : LG86 Lp86 = some (.tup [.str (Str.ofString "own"), .int 500, .int 7, .ref ar, .int 0, .ref Lp83, .ref Lp85]) := atOf hg
    clear hg
    refine ⟨by rw [sizeLine_eq]; decide, fun Lp87 Ln87 => ?_⟩
    generalize hg : upd LG86 Lp87 _ = LG87
    have Ls87 := sameOf Ln87 hg
    have Le87 : LG87 Lp87 = some (.lst [.ref Lp82, .ref Lp86]) := atOf hg
    clear hg
    have Le78t := ((Ls79.trans (Ls80.trans (Ls81.trans (Ls82.trans (Ls83.trans (Ls84.trans (Ls85.trans (Ls86.trans Ls87)))))))) _ _ Le78)
    refine ⟨_, _, _, _, rfl, rfl, Le78t, Le87, (by rw [sizeLine_eq]; simp), fun Lp88 Ln88 => ?_⟩
    generalize hg : upd LG87 Lp88 _ = LG88
    have Ls88 := sameOf Ln88 hg
    have Le88 : LG88 Lp88 = some (.lst [.non, .int 5, .ref Lp3, .ref Lp4, .ref Lp5, .ref Lp7, .ref Lp8, .ref Lp11, .ref Lp14, .ref Lp18, .ref Lp21, .ref Lp24, .ref Lp29, .ref Lp32, .ref Lp35, .ref Lp42, .ref Lp46, .ref Lp52, .ref Lp56, .ref Lp57, .ref Lp63, .ref Lp67, .ref Lp74, .ref Lp75, .ref Lp76, .ref Lp82, .ref Lp86]) := atOf hg
    clear hg
    refine ⟨by rw [sizeLine_eq]; decide, fun Lp89 Ln89 => ?_⟩
    generalize hg : upd LG88 Lp89 _ = LG89
    have Ls89 := sameOf Ln89 hg
    have Le89 : LG89 Lp89 = some (.tup [.str (Str.ofString "drop"), .int 500, .int 9]) := atOf hg
    clear hg
    refine ⟨by rw [sizeLine_eq]; decide, fun Lp90 Ln90 => ?_⟩
    generalize hg : upd LG89 Lp90 _ = LG90
    have Ls90 := sameOf Ln90 hg
    have Le90 : LG90 Lp90 = some (.tup [.str (Str.ofString "change"), .int 500, .int 9, .str (Str.ofString "a"), .non, .int 1]) := atOf hg
    clear hg
    refine ⟨by rw [sizeLine_eq]; decide, fun Lp91 Ln91 => ?_⟩
    generalize hg : upd LG90 Lp91 _ = LG91
    have Ls91 := sameOf Ln91 hg
    have Le91 : LG91 Lp91 = some (.lst [.str (Str.ofString "own")]) := atOf hg
    clear hg
    refine ⟨by rw [sizeLine_eq]; decide, fun Lp92 Ln92 => ?_⟩
    generalize hg : upd LG91 Lp92 _ = LG92
    have Ls92 := sameOf Ln92 hg
    have Le92 : LG92 Lp92 = some (.tup [.ref Lp91]) := atOf hg
    clear hg
    have Le2t := ((Ls13.trans (Ls14.trans (Ls15.trans (Ls16.trans (Ls17.trans (Ls18.trans (Ls19.trans (Ls20.trans (Ls21.trans (Ls22.trans (Ls23.trans (Ls24.trans (Ls25.trans (Ls26.trans (Ls27.trans (Ls28.trans (Ls29.trans (Ls30.trans (Ls31.trans (Ls32.trans (Ls33.trans (Ls34.trans (Ls35.trans (Ls36.trans (Ls37.trans (Ls38.trans (Ls39.trans (Ls40.trans (Ls41.trans (Ls42.trans (Ls43.trans (Ls44.trans (Ls45.trans (Ls46.trans (Ls47.trans (Ls48.trans (Ls49.trans (Ls50.trans (Ls51.trans (Ls52.trans (Ls53.trans (Ls54.trans (Ls55.trans (Ls56.trans (Ls57.trans (Ls58.trans (Ls59.trans (Ls60.trans (Ls61.trans (Ls62.trans (Ls63.trans (Ls64.trans (Ls65.trans (Ls66.trans (Ls67.trans (Ls68.trans (Ls69.trans (Ls70.trans (Ls71.trans (Ls72.trans (Ls73.trans (Ls74.trans (Ls75.trans (Ls76.trans (Ls77.trans (Ls78.trans (Ls79.trans (Ls80.trans (Ls81.trans (Ls82.trans (Ls83.trans (Ls84.trans (Ls85.trans (Ls86.trans (Ls87.trans (Ls88.trans (Ls89.trans (Ls90.trans (Ls91.trans Ls92))))))))))))))))))))))))))))))))))))))))))))))))))))))))))))))))))))))))))))))) _ _ Le2t)
    refine ⟨_, _, rfl, SqT.of Le2t, (fun z => absurd z (show ¬ (HT.sIx 7 0 (some 1) = 0 ∧ HT.sIx 7 7 none = 7) from by decide)), fun _ Lp93 Ln93 => ?_⟩
    generalize hg : upd LG92 Lp93 _ = LG93
    have Ls93 := sameOf Ln93 hg
    have Le93 : LG93 Lp93 = some (.tup [.int 500, .int 7, .ref ar, .int 0, .ref Lp0, .ref Lp1]) := atOf hg
    clear hg
    have Le92t := (Ls93 _ _ Le92)
    refine ⟨_, _, _, _, rfl, rfl, SqT.of Le92t, SqT.of Le93, (by rw [sizeLine_eq]; simp), (fun z => by cases z), (fun _ z => by cases z), fun _ _ Lp94 Ln94 => ?_⟩
    generalize hg : upd LG93 Lp94 _ = LG94
    have Ls94 := sameOf Ln94 hg
    have Le94 : LG94 Lp94 = some (.tup [.ref Lp91, .int 500, .int 7, .ref ar, .int 0, .ref Lp0, .ref Lp1]) := atOf hg
    clear hg
    intro Lp95 Ln95
    generalize hg : upd LG94 Lp95 _ = LG95
    have Ls95 := sameOf Ln95 hg
    have Le95 : LG95 Lp95 = some (.dK []) := atOf hg
    clear hg
    refine ⟨by rw [sizeLine_eq]; decide, fun Lp96 Ln96 => ?_⟩
    generalize hg : upd LG95 Lp96 _ = LG96
    have Ls96 := sameOf Ln96 hg
    have Le96 : LG96 Lp96 = some (.lst [.ref Lp89, .ref Lp90, .ref Lp94, .str (Str.ofString "own"), .ref Lp95]) := atOf hg
    clear hg
    have Le88t := ((Ls89.trans (Ls90.trans (Ls91.trans (Ls92.trans (Ls93.trans (Ls94.trans (Ls95.trans Ls96))))))) _ _ Le88)
    refine ⟨_, _, _, _, rfl, rfl, Le88t, Le96, (by rw [sizeLine_eq]; simp), fun Lp97 Ln97 => ?_⟩
    generalize hg : upd LG96 Lp97 _ = LG97
    have Ls97 := sameOf Ln97 hg
    have Le97 : LG97 Lp97 = some (.lst [.non, .int 5, .ref Lp3, .ref Lp4, .ref Lp5, .ref Lp7, .ref Lp8, .ref Lp11, .ref Lp14, .ref Lp18, .ref Lp21, .ref Lp24, .ref Lp29, .ref Lp32, .ref Lp35, .ref Lp42, .ref Lp46, .ref Lp52, .ref Lp56, .ref Lp57, .ref Lp63, .ref Lp67, .ref Lp74, .ref Lp75, .ref Lp76, .ref Lp82, .ref Lp86, .ref Lp89, .ref Lp90, .ref Lp94, .str (Str.ofString "own"), .ref Lp95]) := atOf hg
    clear hg
    have Lt97 := Same.refl LG97
    have Lt96 := Ls97.trans Lt97
    have Lt95 := Ls96.trans Lt96
    have Lt94 := Ls95.trans Lt95
    have Lt93 := Ls94.trans Lt94
    have Lt92 := Ls93.trans Lt93
    have Lt91 := Ls92.trans Lt92
    have Lt90 := Ls91.trans Lt91
    have Lt89 := Ls90.trans Lt90
    have Lt88 := Ls89.trans Lt89
    have Lt87 := Ls88.trans Lt88
    have Lt86 := Ls87.trans Lt87
    have Lt85 := Ls86.trans Lt86
    have Lt84 := Ls85.trans Lt85
    have Lt83 := Ls84.trans Lt84
    have Lt82 := Ls83.trans Lt83
    have Lt81 := Ls82.trans Lt82
    have Lt80 := Ls81.trans Lt81
    have Lt79 := Ls80.trans Lt80
    have Lt78 := Ls79.trans Lt79
    have Lt77 := Ls78.trans Lt78
    have Lt76 := Ls77.trans Lt77
    have Lt75 := Ls76.trans Lt76
    have Lt74 := Ls75.trans Lt75
    have Lt73 := Ls74.trans Lt74
    have Lt72 := Ls73.trans Lt73
    have Lt71 := Ls72.trans Lt72
    have Lt70 := Ls71.trans Lt71
    have Lt69 := Ls70.trans Lt70
    have Lt68 := Ls69.trans Lt69
    have Lt67 := Ls68.trans Lt68
    have Lt66 := Ls67.trans Lt67
    have Lt65 := Ls66.trans Lt66
    have Lt64 := Ls65.trans Lt65
    have Lt63 := Ls64.trans Lt64
    have Lt62 := Ls63.trans Lt63
    have Lt61 := Ls62.trans Lt62
    have Lt60 := Ls61.trans Lt61
    have Lt59 := Ls60.trans Lt60
    have Lt58 := Ls59.trans Lt59
    have Lt57 := Ls58.trans Lt58
    have Lt56 := Ls57.trans Lt57
    have Lt55 := Ls56.trans Lt56
    have Lt54 := Ls55.trans Lt55
    have Lt53 := Ls54.trans Lt54
    have Lt52 := Ls53.trans Lt53
    have Lt51 := Ls52.trans Lt52
    have Lt50 := Ls51.trans Lt51
    have Lt49 := Ls50.trans Lt50
    have Lt48 := Ls49.trans Lt49
    have Lt47 := Ls48.trans Lt48
    have Lt46 := Ls47.trans Lt47
    have Lt45 := Ls46.trans Lt46
    have Lt44 := Ls45.trans Lt45
    have Lt43 := Ls44.trans Lt44
    have Lt42 := Ls43.trans Lt43
    have Lt41 := Ls42.trans Lt42
    have Lt40 := Ls41.trans Lt41
    have Lt39 := Ls40.trans Lt40
    have Lt38 := Ls39.trans Lt39
    have Lt37 := Ls38.trans Lt38
    have Lt36 := Ls37.trans Lt37
    have Lt35 := Ls36.trans Lt36
    have Lt34 := Ls35.trans Lt35
    have Lt33 := Ls34.trans Lt34
    have Lt32 := Ls33.trans Lt33
    have Lt31 := Ls32.trans Lt32
    have Lt30 := Ls31.trans Lt31
    have Lt29 := Ls30.trans Lt30
    have Lt28 := Ls29.trans Lt29
    have Lt27 := Ls28.trans Lt28
    have Lt26 := Ls27.trans Lt27
    have Lt25 := Ls26.trans Lt26
    have Lt24 := Ls25.trans Lt25
    have Lt23 := Ls24.trans Lt24
    have Lt22 := Ls23.trans Lt23
    have Lt21 := Ls22.trans Lt22
    have Lt20 := Ls21.trans Lt21
    have Lt19 := Ls20.trans Lt20
    have Lt18 := Ls19.trans Lt19
    have Lt17 := Ls18.trans Lt18
    have Lt16 := Ls17.trans Lt17
    have Lt15 := Ls16.trans Lt16
    have Lt14 := Ls15.trans Lt15
    have Lt13 := Ls14.trans Lt14
    have Lt12 := Ls13.trans Lt13
    have Lt11 := Ls12.trans Lt12
    have Lt10 := Ls11.trans Lt11
    have Lt9 := Ls10.trans Lt10
    have Lt8 := Ls9.trans Lt9
    have Lt7 := Ls8.trans Lt8
    have Lt6 := Ls7.trans Lt7
    have Lt5 := Ls6.trans Lt6
    have Lt4 := Ls5.trans Lt5
    have Lt3 := Ls4.trans Lt4
    have Lt2 := Ls3.trans Lt3
    have Lt1 := Ls2.trans Lt2
    have Lt0 := Ls1.trans Lt1
    have har' := (Ls0.trans Lt0) _ _ har
    exact q _ _ _ [none, none, none, none, none, none, none, none, none, none, none, none, none, none, none, none, none, none, none, none, none, none, none, none, none, none, none, some (.drop (500) (9)), some (.chg 500 9 (Str.ofString "a") (none) (some (1))), none, none, none] (Ls0.trans Lt0) (Lt97 _ _ Le97)
        (.cons (.no .non rfl)
        (.cons (.no (.int _) rfl)
        (.cons (.short (Lt3 _ _ Le3) (by simp))
        (.cons (.short (Lt4 _ _ Le4) (by simp))
        (.cons (.no (.lst (Lt5 _ _ Le5)) rfl)
        (.cons (.own (b := none) (Lt7 _ _ Le7) (by simp) (by decide) (by decide) (.len (Lt7 _ _ Le7) (by simp) (by simp)))
        (.cons (.own (b := none) (Lt8 _ _ Le8) (by simp) (by decide) (by decide) (.len (Lt8 _ _ Le8) (by simp) (by simp)))
        (.cons (.word (Lt11 _ _ Le11) (by simp) (by decide) (by decide) (by decide +kernel) (by decide +kernel) (by decide +kernel))
        (.cons (.nostr (Lt14 _ _ Le14) (by simp) .non rfl)
        (.cons (.mom (Lt18 _ _ Le18) (by simp) (.bl _) (by decide))
        (.cons (.mom (Lt21 _ _ Le21) (by simp) (.int _) (by decide))
        (.cons (.num (Lt24 _ _ Le24) (by simp) (by decide) (.int _) (by decide))
        (.cons (.own (b := none) (Lt29 _ _ Le29) (by simp) (by decide) (by decide) (.arc (Lt29 _ _ Le29) .non rfl (fun _ _ z => by cases z)))
        (.cons (.own (b := none) (Lt32 _ _ Le32) (by simp) (by decide) (by decide) (.floor (Lt32 _ _ Le32) har' (.int _) (by decide)))
        (.cons (own_bad (rc := none) (cc := some []) (Lt35 _ _ Le35) har' (by decide) (by decide) (by decide) (.no (.lst (Lt33 _ _ Le33)) rfl) (.tup (.inl (Lt34 _ _ Le34)) .nil (by simp)) (by decide +kernel))
        (.cons (own_bad (rc := some [some ((Str.ofString "a"), 1), some ((Str.ofString "a"), 2)]) (cc := some []) (Lt42 _ _ Le42) har' (by decide) (by decide) (by decide) (.tup (.inl (Lt40 _ _ Le40)) (.cons (.row (Lt38 _ _ Le38) (by decide +kernel)) (.cons (.row (Lt39 _ _ Le39) (by decide +kernel)) .nil)) (by simp)) (.tup (.inl (Lt41 _ _ Le41)) .nil (by simp)) (by decide +kernel))
        (.cons (own_bad (rc := some [some ((Str.ofString "A"), 1)]) (cc := some []) (Lt46 _ _ Le46) har' (by decide) (by decide) (by decide) (.tup (.inl (Lt44 _ _ Le44)) (.cons (.row (Lt43 _ _ Le43) (by decide +kernel)) .nil) (by simp)) (.tup (.inl (Lt45 _ _ Le45)) .nil (by simp)) (by decide +kernel))
        (.cons (own_bad (rc := some [none]) (cc := some []) (Lt52 _ _ Le52) har' (by decide) (by decide) (by decide) (.tup (.inl (Lt50 _ _ Le50)) (.cons (.val (Lt49 _ _ Le49) (by decide +kernel) (.bl _) rfl) .nil) (by simp)) (.tup (.inl (Lt51 _ _ Le51)) .nil (by simp)) (by decide +kernel))
        (.cons (own_bad (rc := some [none]) (cc := some []) (Lt56 _ _ Le56) har' (by decide) (by decide) (by decide) (.tup (.inl (Lt54 _ _ Le54)) (.cons (.no (.lst (Lt53 _ _ Le53)) rfl) .nil) (by simp)) (.tup (.inl (Lt55 _ _ Le55)) .nil (by simp)) (by decide +kernel))
        (.cons (.short (Lt57 _ _ Le57) (by simp))
        (.cons (own_bad (rc := some []) (cc := some [some (0, (Str.ofString "a"), none, some (1))]) (Lt63 _ _ Le63) har' (by decide) (by decide) (by decide) (.tup (.inl (Lt60 _ _ Le60)) .nil (by simp)) (.tup (.inl (Lt62 _ _ Le62)) (.cons (.row (r := (0, (Str.ofString "a"), none, some (1))) (Lt61 _ _ Le61) (by decide +kernel) (by decide +kernel)) .nil) (by simp)) (by decide +kernel))
        (.cons (own_bad (rc := some []) (cc := some [some (3, (Str.ofString "a"), some (1), some (2))]) (Lt67 _ _ Le67) har' (by decide) (by decide) (by decide) (.tup (.inl (Lt64 _ _ Le64)) .nil (by simp)) (.tup (.inl (Lt66 _ _ Le66)) (.cons (.row (r := (3, (Str.ofString "a"), some (1), some (2))) (Lt65 _ _ Le65) (by decide +kernel) (by decide +kernel)) .nil) (by simp)) (by decide +kernel))
        (.cons (own_bad (rc := some []) (cc := some [some (2, (Str.ofString "a"), some (1), some (2)), some (2, (Str.ofString "b"), some (1), some (2))]) (Lt74 _ _ Le74) har' (by decide) (by decide) (by decide) (.tup (.inl (Lt70 _ _ Le70)) .nil (by simp)) (.tup (.inl (Lt73 _ _ Le73)) (.cons (.row (r := (2, (Str.ofString "a"), some (1), some (2))) (Lt71 _ _ Le71) (by decide +kernel) (by decide +kernel)) (.cons (.row (r := (2, (Str.ofString "b"), some (1), some (2))) (Lt72 _ _ Le72) (by decide +kernel) (by decide +kernel)) .nil)) (by simp)) (by decide +kernel))
        (.cons (.dropLen (Lt75 _ _ Le75) (by simp) (by decide) (by decide) (by simp))
        (.cons (.num (Lt76 _ _ Le76) (by simp) (by decide) (.str _) (by decide))
        (.cons (own_bad (rc := some []) (cc := some [some (2, (Str.ofString "a"), none, none)]) (Lt82 _ _ Le82) har' (by decide) (by decide) (by decide) (.tup (.inl (Lt79 _ _ Le79)) .nil (by simp)) (.tup (.inl (Lt81 _ _ Le81)) (.cons (.row (r := (2, (Str.ofString "a"), none, none)) (Lt80 _ _ Le80) (by decide +kernel) (by decide +kernel)) .nil) (by simp)) (by decide +kernel))
        (.cons (own_bad (rc := some []) (cc := some [none]) (Lt86 _ _ Le86) har' (by decide) (by decide) (by decide) (.tup (.inl (Lt83 _ _ Le83)) .nil (by simp)) (.tup (.inl (Lt85 _ _ Le85)) (.cons (.no (.lst (Lt84 _ _ Le84)) rfl) .nil) (by simp)) (by decide +kernel))
        (.cons (.drop (Lt89 _ _ Le89) (by decide) (by decide))
        (.cons (en_chg_mk (o := none) (w := some (1)) (Lt90 _ _ Le90) (by decide) (by decide) (by decide +kernel) rfl)
        (.cons (.nostr (Lt94 _ _ Le94) (by simp) (.lst (Lt91 _ _ Le91)) rfl)
        (.cons (.no (.str _) rfl)
        (.cons (.no (.dct (Lt95 _ _ Le95)) rfl)
        .nil)))))))))))))))))))))))))))))))) (refuse_cons refuses_none (refuse_cons refuses_none (refuse_cons refuses_none (refuse_cons refuses_none (refuse_cons refuses_none (refuse_cons refuses_none (refuse_cons refuses_none (refuse_cons refuses_none (refuse_cons refuses_none (refuse_cons refuses_none (refuse_cons refuses_none (refuse_cons refuses_none (refuse_cons refuses_none (refuse_cons refuses_none (refuse_cons refuses_none (refuse_cons refuses_none (refuse_cons refuses_none (refuse_cons refuses_none (refuse_cons refuses_none (refuse_cons refuses_none (refuse_cons refuses_none (refuse_cons refuses_none (refuse_cons refuses_none (refuse_cons refuses_none (refuse_cons refuses_none (refuse_cons refuses_none (refuse_cons refuses_none (refuse_cons refuses_drop (refuse_cons refuses_chg (refuse_cons refuses_none (refuse_cons refuses_none (refuse_cons refuses_none refuse_nil)))))))))))))))))))))))))))))))) (by simp)

/-! what cannot follow -/
/-- what the law knows of the shards, by their numbers -/
structure FsAt (H G : Hp) (R : Addr) (s : RS) (B D : Int → Addr) (N : Nat) : Prop where
  base : Same H G
  nR : H R = none
  dct : ∃ kvs, G R = some (.dK kvs) ∧ (∀ n, valV kvs (.inl n) = (s.sh n).map fun _ => V.ref (B n)) ∧ (∀ p ∈ kvs, ∃ n, p.1 = .inl n) ∧ (kvs.map (·.1)).Nodup ∧ kvs.length ≤ N
  sh : ∀ n h, s.sh n = some h → G (B n) = some (.tup [.ref (D n), .int (lastOf h.f h.rs)]) ∧ D n ≠ R ∧ ∃ kv, G (D n) = some (.dK kv) ∧ Rep kv h.c ∧ kv.length ≤ N
section
variable {H G G' : Hp} {R : Addr} {s : RS} {B D : Int → Addr} {N M : Nat}
theorem FsAt.same (g : FsAt H G R s B D N) (k : Same G G') : FsAt H G' R s B D N := by
  obtain ⟨kvs, h1, h2⟩ := g.dct
  exact ⟨g.base.trans k, g.nR, ⟨kvs, k _ _ h1, h2⟩, fun n h e => let ⟨a, b, kv, c, d⟩ := g.sh n h e; ⟨k _ _ a, b, kv, k _ _ c, d⟩⟩
theorem FsAt.mono (g : FsAt H G R s B D N) (l : N ≤ M) : FsAt H G R s B D M := by
  obtain ⟨kvs, h1, h2, h3, h4, h5⟩ := g.dct
  exact ⟨g.base, g.nR, ⟨kvs, h1, h2, h3, h4, by omega⟩, fun n h e => let ⟨a, b, kv, c, d, f⟩ := g.sh n h e; ⟨a, b, kv, c, d, by omega⟩⟩
/-- another list is changed -/
theorem FsAt.exL {a : Addr} {xs : List V} (g : FsAt H G R s B D N) (x : Ex a G G') (h : G a = some (.lst xs)) (n : H a = none) : FsAt H G' R s B D N := by
  obtain ⟨kvs, h1, h2⟩ := g.dct
  exact ⟨fun b o hb => x _ _ (ne_of_none hb n) (g.base _ _ hb), g.nR, ⟨kvs, x _ _ (ne_of h1 h (fun z => by cases z)) h1, h2⟩, fun n h' e => let ⟨a', b, kv, c, d⟩ := g.sh n h' e; ⟨x _ _ (ne_of a' h (fun z => by cases z)) a', b, kv, x _ _ (ne_of c h (fun z => by cases z)) c, d⟩⟩
/-- a shard is put in anew -/
theorem FsAt.put {n : Int} {h : Sh} {T E : Addr} {kvs kv : List (Key × V)} {m : Int} (g : FsAt H G R s B D N) (hT : G T = some (.tup [.ref E, .int (lastOf h.f h.rs)])) (hE : G E = some (.dK kv)) (nE : E ≠ R) (rep : Rep kv h.c) (lk : kv.length ≤ N + 1) (hR : G R = some (.dK kvs)) (e : upd G R (.dK (putK kvs (.inl n) (.ref T))) = G') : FsAt H G' R ⟨m, setS s.sh n (some h)⟩ (setS B n T) (setS D n E) (N + 1) := by
  obtain ⟨kvs', h1, h2, h3, h4, h5⟩ := g.dct
  rw [hR] at h1
  cases h1
  have x : Ex R G G' := by
    rw [← e]
    exact Ex.refl.upd
  refine ⟨fun b o hb => x _ _ (ne_of_none hb g.nR) (g.base _ _ hb), g.nR, ⟨_, atOf e, fun j => ?_, fun p hp => ?_, putK_nd h4, by have := length_putK kvs (.inl n) (.ref T); omega⟩, fun j h' ej => ?_⟩
  · rw [valV_put]
    show _ = (setS s.sh n (some h) j).map _
    by_cases en : j = n
    · subst en
      rw [if_pos rfl, setS_same, setS_same]
      rfl
    · rw [if_neg (fun z => en (by cases z; rfl)), setS_ne en, setS_ne en]
      exact h2 j
  · rcases putK_mem hp with hp | rfl
    · exact h3 p hp
    · exact ⟨n, rfl⟩
  · have e' : setS s.sh n (some h) j = some h' := ej
    by_cases en : j = n
    · subst en
      rw [setS_same] at e'
      cases e'
      rw [setS_same, setS_same]
      exact ⟨x _ _ (ne_of hT hR (fun z => by cases z)) hT, nE, kv, x _ _ nE hE, rep, lk⟩
    · rw [setS_ne en] at e'
      rw [setS_ne en, setS_ne en]
      obtain ⟨a, b, kv', c, d, f⟩ := g.sh j h' e'
      exact ⟨x _ _ (ne_of a hR (fun z => by cases z)) a, b, kv', x _ _ b c, d, by omega⟩
theorem FsAt.drop {n : Int} {kvs : List (Key × V)} {m : Int} (g : FsAt H G R s B D N) (hR : G R = some (.dK kvs)) (e : upd G R (.dK (dropK kvs (.inl n))) = G') : FsAt H G' R ⟨m, setS s.sh n none⟩ B D N := by
  obtain ⟨kvs', h1, h2, h3, h4, h5⟩ := g.dct
  rw [hR] at h1
  cases h1
  have x : Ex R G G' := by
    rw [← e]
    exact Ex.refl.upd
  refine ⟨fun b o hb => x _ _ (ne_of_none hb g.nR) (g.base _ _ hb), g.nR, ⟨_, atOf e, fun j => ?_, fun p hp => h3 p (List.mem_filter.mp hp).1, dropK_nd h4, Nat.le_trans (List.length_filter_le _ _) h5⟩, fun j h' ej => ?_⟩
  · rw [valV_drop]
    show _ = (setS s.sh n none j).map _
    by_cases en : j = n
    · subst en
      rw [if_pos rfl, setS_same]
      rfl
    · rw [if_neg (fun z => en (by cases z; rfl)), setS_ne en]
      exact h2 j
  · have e' : setS s.sh n none j = some h' := ej
    by_cases en : j = n
    · subst en
      rw [setS_same] at e'
      cases e'
    · rw [setS_ne en] at e'
      obtain ⟨a, b, kv', c, d⟩ := g.sh j h' e'
      exact ⟨x _ _ (ne_of a hR (fun z => by cases z)) a, b, kv', x _ _ b c, d⟩
end
theorem mergeK_nil {l : List (Key × V)} (nd : (l.map (·.1)).Nodup) : mergeK [] l = l := by
  have key : ∀ {l acc : List (Key × V)}, ((acc ++ l).map (·.1)).Nodup → mergeK acc l = acc ++ l := by
    intro l
    induction l with
    | nil => intro acc _; simp [mergeK]
    | cons kv l ih =>
      intro acc nd
      have nn : valV acc kv.1 = none := by
        cases e : valV acc kv.1 with
        | none => rfl
        | some v =>
          have hm := mem_valV e
          rw [List.map_append] at nd
          exact absurd rfl ((List.nodup_append.mp nd).2.2 kv.1 (List.mem_map.mpr ⟨_, hm, rfl⟩) kv.1 (by simp))
      show mergeK (putK acc kv.1 kv.2) l = _
      rw [putK_new kv.2 nn, ih (by simpa using nd)]
      simp
  exact key (acc := []) (by simpa using nd)
def isVal (p : Key × V) : Bool := !decide (p.2 = V.non)
/-- a dict of a content with a change of it, without what is None -/
theorem Rep.chgN {kv : List (Key × V)} {c : Ct} (h : Rep kv c) (z : Str) (w : Option Int) : Rep ((putK kv (.inr z) (oV w)).filter isVal) (updC c z w) := by
  have nd : ((putK kv (.inr z) (oV w)).map (·.1)).Nodup := putK_nd h.nd
  have nd2 := nd.sublist ((List.filter_sublist (p := isVal)).map (·.1))
  have oi : ∀ x : Option Int, oV x ≠ .non → ∃ i, oV x = .int i ∧ x = some i := fun x hx => by
    cases x with
    | none => exact absurd rfl hx
    | some i => exact ⟨i, rfl, rfl⟩
  refine ⟨fun p hp => ?_, nd2, fun y => ?_⟩
  · obtain ⟨h1, h2⟩ := List.mem_filter.mp hp
    rcases putK_mem h1 with h1 | rfl
    · exact h.kv p h1
    · obtain ⟨i, e, _⟩ := oi w (by intro e; simp [isVal, e] at h2)
      exact ⟨z, i, by rw [e]⟩
  · have vp := valV_put kv (.inr z) (.inr y) (oV w)
    cases e : updC c z w y with
    | none =>
      cases e2 : valV ((putK kv (.inr z) (oV w)).filter isVal) (.inr y) with
      | none => rfl
      | some v =>
        obtain ⟨h1, h2⟩ := List.mem_filter.mp (mem_valV e2)
        have e3 := valV_mem nd h1
        rw [vp] at e3
        unfold updC at e
        by_cases ey : y = z
        · subst ey
          rw [if_pos rfl] at e3 e
          rw [e] at e3
          cases e3
          exact absurd h2 (by simp [isVal, oV])
        · rw [if_neg (fun q => ey (by cases q; rfl)), h.val y] at e3
          rw [if_neg ey] at e
          rw [e] at e3
          cases e3
    | some i =>
      refine valV_mem nd2 (List.mem_filter.mpr ⟨mem_valV ?_, rfl⟩)
      rw [vp]
      unfold updC at e
      by_cases ey : y = z
      · subst ey
        rw [if_pos rfl] at e ⊢
        rw [e]
        rfl
      · rw [if_neg ey] at e
        rw [if_neg (fun q => ey (by cases q; rfl)), h.val y, e]
        rfl
theorem inv_own {s s1 : RS} {m n f : Int} {ar : Addr} {rws : List (Option (Str × Int))} {chs : List (Option LRow)} (h : stepE 0 s (some (.own m n (ar, f, rws, chs))) = some s1) : s1 = ⟨m, setS s.sh n (some ⟨ar, ctOf rws, cutF 0 f (chsOf chs), cutR 0 (chsOf chs)⟩)⟩ := by
  unfold stepE at h
  dsimp only at h
  split at h
  · cases h
  · split at h
    · cases h
    · exact (Option.some.inj h).symm
theorem inv_drop {s s1 : RS} {m n : Int} (h : stepE 0 s (some (.drop m n)) = some s1) : (∃ h, s.sh n = some h) ∧ s1 = ⟨m, setS s.sh n none⟩ := by
  unfold stepE at h
  dsimp only at h
  split at h
  · cases h
  · split at h
    · cases h
    · rename_i h0 e
      exact ⟨⟨_, e⟩, (Option.some.inj h).symm⟩
theorem inv_chg {s s1 : RS} {m n : Int} {z : Str} {o w : Option Int} (h : stepE 0 s (some (.chg m n z o w)) = some s1) : ∃ h, s.sh n = some h ∧ s1 = ⟨m, setS s.sh n (some ⟨h.ar, updC h.c z w, cutF 0 h.f (h.rs ++ [(m, z, o, w)]), cutR 0 (h.rs ++ [(m, z, o, w)])⟩)⟩ := by
  unfold stepE at h
  dsimp only at h
  split at h
  · cases h
  · split at h
    · cases h
    · rename_i h0 e
      split at h
      · exact ⟨_, e, (Option.some.inj h).symm⟩
      · cases h
/-- the moments of the rows in a tuple -/
theorem lc_moms {K : Frag} {tl te : TE} {tt : TT} {σ : L2.St} {i : Nat} {H : Hp} {l : Addr} {as : List Addr} {rs : List LRow} {Q : VK} (hL : TpV H l (as.map V.ref)) (hrs : RowsAt H as rs) (few : rs.length ≤ 1000)
    (hl : ∀ Q' : VK, Q' (.ref l) H → tl σ H Q') (ht : ∀ x G Q', Q' true G → tt ((wipe σ [i]).set i (some x)) G Q')
    (he : ∀ c r G Q', G c = some (.tup (rowV r)) → Q' (.int r.1) G → te ((wipe σ [i]).set i (some (.ref c))) G Q')
    (hw : ∀ x, wipe ((wipe σ [i]).set i (some x)) [i] = wipe σ [i])
    (q : ∀ G D, Same H G → H D = none → G D = some (.lst (rs.map fun r => V.int r.1)) → Q (.ref D) G) : tLc (iTup K tl) (gName i) tt te [i] σ H Q := by
  refine hl _ ⟨l, rfl, ⟨_, hL.sq⟩, fun D hD => ?_⟩
  refine lc_it (walk_tup (xs := as.map V.ref)) (fun j H2 => H2 D = some (.lst ((rs.take j).map fun r => V.int r.1)) ∧ Same H H2) ⟨upd_same, Same.upd (Same.refl _) hD⟩ (fun j H2 _ h => (hL.same h.2).sq) ?_ ?_
  · rintro j x H2 H3 hj ⟨hb, s2⟩ ⟨rfl, e⟩
    obtain ⟨c, ec, rfl⟩ := get_ref e
    obtain ⟨r, er, hr⟩ := hrs.at ec
    refine ⟨hw _, ht _ _ _ ?_⟩
    rw [if_pos rfl]
    refine he c r H3 _ (s2 _ _ hr) ⟨_, hb, by rw [List.length_map, List.length_take, sizeLine_eq]; omega, ?_, same_own hD s2⟩
    rw [upd_same, List.take_add_one, er, List.map_append]
    rfl
  · rintro H2 ⟨hb, s2⟩
    rw [List.length_map, hrs.len, List.take_length] at hb
    exact q H2 D s2 hD hb
theorem same_own2 {H H' : Hp} {p : Addr} {o : HO} (h : H p = none) (s : Same H H') : Same H (upd H' p o) := same_own h s
theorem keys_ints {kvs : List (Key × V)} (h : ∀ p ∈ kvs, ∃ n, p.1 = .inl n) : ∃ ks : List Int, kvs.map (·.1) = ks.map Sum.inl := by
  induction kvs with
  | nil => exact ⟨[], rfl⟩
  | cons p kvs ih =>
    obtain ⟨n, e⟩ := h p List.mem_cons_self
    obtain ⟨ks, ek⟩ := ih fun q hq => h q (List.mem_cons_of_mem _ hq)
    exact ⟨n :: ks, by rw [List.map_cons, List.map_cons, e, ek]⟩
theorem ref_chg {s : RS} {m n : Int} {z : Str} {o w : Option Int} {h : Sh} (hs : s.sh n = some h) (hn : ¬ (h.c z = o ∧ lastOf h.f h.rs < m)) : stepE 0 s (some (.chg m n z o w)) = none := by
  unfold stepE
  dsimp only
  split
  · rfl
  · rw [hs]
    dsimp only
    rw [if_neg hn]
theorem ref_drop {s : RS} {m n : Int} (h : m < s.mom) : stepE 0 s (some (.drop m n)) = none := by
  unfold stepE
  dsimp only
  rw [if_pos h]
/-- the entries so far that cannot follow -/
structure OdAt (K : Frag) (H G : Hp) (R : Addr) (s : RS) (B D : Int → Addr) (L : Addr) (ys : List Int) (O : Addr) (vs : List V) (cs : List (Option En)) : Prop where
  fs : FsAt H G R s B D 1011
  eO : G O = some (.lst vs)
  nO : H O = none
  eL : G L = some (.lst (ys.map V.int))
  nL : O ≠ L
  pr : Paired (fun v c => ∀ G', Kp G G' → EnV K G' v c) vs cs
  no : ∀ c ∈ cs, stepE 0 s c = none
section
variable {K : Frag} {H G G' : Hp} {R : Addr} {s : RS} {B D : Int → Addr} {L O : Addr} {ys : List Int} {vs : List V} {cs : List (Option En)}
theorem OdAt.same (g : OdAt K H G R s B D L ys O vs cs) (k : Same G G') : OdAt K H G' R s B D L ys O vs cs :=
  ⟨g.fs.same k, k _ _ g.eO, g.nO, k _ _ g.eL, g.nL, paired_imp g.pr fun _ _ _ h G2 k2 => h G2 ((Kp.of k).trans k2), g.no⟩
theorem pr_app {α β : Type} {P : α → β → Prop} : ∀ {xs : List α} {ys : List β} {xs' : List α} {ys' : List β}, Paired P xs ys → Paired P xs' ys' → Paired P (xs ++ xs') (ys ++ ys')
  | _, _, _, _, .nil, g => g
  | _, _, _, _, .cons h t, g => .cons h (pr_app t g)
theorem OdAt.more {O' : Addr} {ws : List V} {ds : List (Option En)} (g : OdAt K H G R s B D L ys O vs cs) (k : Same G G') (n : G O' = none) (e : G' O' = some (.lst (vs ++ ws))) (p : Paired (fun v c => ∀ G2, Kp G' G2 → EnV K G2 v c) ws ds) (r : ∀ c ∈ ds, stepE 0 s c = none) : OdAt K H G' R s B D L ys O' (vs ++ ws) (cs ++ ds) := by
  have g' := g.same k
  exact ⟨g'.fs, e, g.fs.base.free n, g'.eL, (ne_of_none g.eL n).symm, pr_app g'.pr p, fun c hc => (List.mem_append.mp hc).elim (g.no c) (r c)⟩
theorem OdAt.app {w : V} {d : Option En} (g : OdAt K H G R s B D L ys O vs cs) (h : upd G O (.lst (vs ++ [w])) = G') (p : ∀ G2, Kp G G2 → EnV K G2 w d) (r : stepE 0 s d = none) : OdAt K H G' R s B D L ys O (vs ++ [w]) (cs ++ [d]) := by
  have x : Ex O G G' := by
    rw [← h]
    exact Ex.refl.upd
  have k := Kp.exL x g.eO
  refine ⟨g.fs.exL x g.eO g.nO, atOf h, g.nO, x _ _ g.nL.symm g.eL, g.nL, ?_, fun c hc => (List.mem_append.mp hc).elim (g.no c) fun e => by rw [List.mem_singleton.mp e]; exact r⟩
  exact pr_app (paired_imp g.pr fun _ _ _ h G2 k2 => h G2 (k.trans k2)) (.cons (fun G2 k2 => p G2 (k.trans k2)) .nil)
end
theorem zz_ok : (Str.ofString "zz").length ≤ 1000 ∧ PyData.strOk (Str.ofString "zz") = true ∧ isKeyL (Str.ofString "zz").cps.toList = true := by decide +kernel
theorem zz_not : Str.ofString "zz" ∉ abcd := by decide +kernel
/-- a tuple stays -/
theorem kt {H H' : Hp} {a : Addr} {xs : List V} (h : H a = some (.tup xs)) (k : Kp H H') : H' a = some (.tup xs) := k _ _ h (fun _ z => by cases z) (fun _ z => by cases z)
theorem updComm {H : Hp} {a b : Addr} {o p : HO} (n : a ≠ b) : upd (upd H a o) b p = upd (upd H b p) a o := by
  funext c
  by_cases h1 : c = a
  · subst h1
    rw [upd_ne n, upd_same, upd_same]
  · by_cases h2 : c = b
    · subst h2
      rw [upd_same, upd_ne h1, upd_same]
    · rw [upd_ne h2, upd_ne h1, upd_ne h1, upd_ne h2]
theorem updTwice {H : Hp} {a : Addr} {o p : HO} : upd (upd H a o) a p = upd H a p := by
  funext c
  by_cases h1 : c = a
  · subst h1
    rw [upd_same, upd_same]
  · rw [upd_ne h1, upd_ne h1, upd_ne h1]
theorem updSelf {H : Hp} {a : Addr} {o : HO} (h : H a = some o) : upd H a o = H := by
  funext c
  by_cases h1 : c = a
  · subst h1
    rw [upd_same, h]
  · rw [upd_ne h1]

def sp__law_follows (K : Frag) : Sp := fun vs H Q _ => ∃ (F : Addr) (us : List V) (es : List En) (s : RS), vs = [.ref F] ∧ JrAt K H F us es s ∧ us.length ≤ 11 ∧ s.mom ≤ 22 ∧ ∀ G l vs cs, Same H G → G l = some (.lst vs) → Paired (EnV K G) vs cs → (∀ c ∈ cs, stepE 0 s c = none) → vs.length ≤ 60 → Q (.ref l) G
theorem sc__law_follows : FnScope ["_law_found", "_law_entry", "_law_odd", "_law_number", "_law_rows", "_law_moment", "_law_last", "_law_key", "_law_some", "_law_change", "_law_row"] ["_law_found"] (defScope s__law_follows) := ⟨rfl, rfl, rfl, by decide +kernel, rfl, by decide +kernel, by decide +kernel⟩
theorem ok__law_follows {P : Program} {w : World} {K : Frag} {mg : Str → Option Value} {base : Heap} (T : Txt K mg) : FnB P w K mg base 1 (glA "_law_follows" K) (sp__law_follows K) := by
  refine okD (N := ["_law_found", "_law_entry", "_law_odd", "_law_number", "_law_rows", "_law_moment", "_law_last", "_law_key", "_law_some", "_law_change", "_law_row"]) (ps := ["_law_found"]) (k := 0) (d := g__law_follows) T.d__law_follows rfl sc__law_follows (fun vs H Q E h => ?_) (fun _ _ _ _ _ _ us hl => match us, hl with | [_], _ => rfl) (fun A outer s H vs Q E hr h => ?_)
  · obtain ⟨F, us, es, s, rfl, jr, few, mom, q⟩ := h
    rfl
  · have hu := hr.hu
    obtain ⟨F, us, es, s, rfl, jr, few, mom, q⟩ := h
    refine ⟨_, PSs.nox ((pss_cons (ps_asg (pe_tup (pa_cons pe_dnewK (pa_cons pe_non (pa_cons pe_int (pa_cons pe_int pa_nil))))) (pg_tup (n := 4) (by rfl) (pgs_cons (pg_name (i := 4) sc__law_follows.nd rfl (Or.inl rfl)) (pgs_cons (pg_name (i := 3) sc__law_follows.nd rfl (Or.inl rfl)) (pgs_cons (pg_name (i := 5) sc__law_follows.nd rfl (Or.inl rfl)) (pgs_cons (pg_name (i := 6) sc__law_follows.nd rfl (Or.inl rfl)) pgs_nil))))))
      (pss_cons (ps_for PassesOwn.never rfl (pi_list (pv 0)) (pg_name (i := 1) sc__law_follows.nd rfl (Or.inl rfl))
        (pss_cons (ps_set (i := 5) sc__law_follows.nd rfl (Or.inl rfl) (pe_ix ix_tup (pv 1) pe_int (fun _ _ => rfl)))
        (pss_one (ps_if (pt_cmpR op_eq (pe_ix ix_tup (pv 1) pe_int (fun _ _ => rfl)) pe_str (nomark _))
          (pss_one (ps_dput hr.hu (pv 4) (pe_ix ix_tup (pv 1) pe_int (fun _ _ => rfl)) (pe_tup (pa_cons (pe_callTy (call_dictFz rfl) (by rfl) T.b_dict (by decide +kernel) (pa_cons (pe_ix ix_tup (pv 1) pe_int (fun _ _ => rfl)) pa_nil)) (pa_cons (pe_callB (call_maxI rfl) (by rfl) T.b_max (by decide +kernel) (pa_cons (pe_op op_cat (pe_lst (pa_cons (pe_ix ix_tup (pv 1) pe_int (fun _ _ => rfl)) pa_nil)) (pe_lc (own := [("_law_change", 9)]) (g := gName 9) rfl sc__law_follows.nd (pi_tup (pe_ix ix_tup (pv 1) pe_int (fun _ _ => rfl))) (blkOk_by (N := ["_law_found", "_law_entry", "_law_odd", "_law_number", "_law_rows", "_law_moment", "_law_last", "_law_key", "_law_some", "_law_change", "_law_row"]) (sc := defScope s__law_follows) (by decide +kernel)) (fun _ _ _ _ _ => pg_name (i := 9) sc__law_follows.nd rfl (Or.inl rfl)) (fun _ _ _ _ _ => pts_nil) (fun _ _ _ _ _ => (pe_ix (ix_tup : IxR _ (rIxT K)) (pv 9) pe_int (fun _ _ => rfl))))) pa_nil)) pa_nil))) rfl))
          (pss_one (ps_if (pt_cmpR op_eq (pe_ix ix_tup (pv 1) pe_int (fun _ _ => rfl)) pe_str (nomark _))
            (pss_one (ps_expr (pe_dpop1 (pv 4) (pe_ix ix_tup (pv 1) pe_int (fun _ _ => rfl)) ⟨rfl, rfl, rfl, rfl⟩)))
            (pss_cons (ps_set (i := 8) sc__law_follows.nd rfl (Or.inl rfl) (pe_callTy call_dictC (by rfl) T.b_dict (by decide +kernel) (pa_cons (pe_ix ix_tup (pe_dget hr.hu (pv 4) (pe_ix ix_tup (pv 1) pe_int (fun _ _ => rfl)) (fun _ _ => rfl)) pe_int (fun _ _ => rfl)) pa_nil)))
            (pss_cons (ps_dput hr.hu (pv 8) (pe_ix ix_tup (pv 1) pe_int (fun _ _ => rfl)) (pe_ix ix_tup (pv 1) pe_int (fun _ _ => rfl)) rfl)
            (pss_one (ps_dput hr.hu (pv 4) (pe_ix ix_tup (pv 1) pe_int (fun _ _ => rfl)) (pe_tup (pa_cons (pe_callTy (call_dictP rfl) (by rfl) T.b_dict (by decide +kernel) (pa_cons (pe_lock (pe_lc (own := [("_law_row", 10)]) (g := gName 10) rfl sc__law_follows.nd (pi_itemsN (pv 8)) (blkOk_by (N := ["_law_found", "_law_entry", "_law_odd", "_law_number", "_law_rows", "_law_moment", "_law_last", "_law_key", "_law_some", "_law_change", "_law_row"]) (sc := defScope s__law_follows) (by decide +kernel)) (fun _ _ _ _ _ => pg_name (i := 10) sc__law_follows.nd rfl (Or.inl rfl)) (fun _ _ _ _ _ => (pts_one (pt_cmpR op_notN (pe_ix (ix_tup : IxR _ (rIxT K)) (pv 10) pe_int (fun _ _ => rfl)) pe_non (nomark _)))) (fun _ _ _ _ _ => (pv 10)))) pa_nil)) (pa_cons (pv 5) pa_nil))) rfl))))))))))
      (pss_cons (ps_set (i := 2) sc__law_follows.nd rfl (Or.inl rfl) (pe_lst pa_nil))
      (pss_cons (ps_for PassesOwn.never rfl (pi_list (pe_callB (call_sortedDI rfl) (by rfl) T.b_sorted (by decide +kernel) (pa_cons (pv 4) pa_nil))) (pg_name (i := 3) sc__law_follows.nd rfl (Or.inl rfl))
        (pss_cons (ps_asg (pe_dget hr.hu (pv 4) (pv 3) (fun _ _ => rfl)) (pg_tup (n := 2) (by rfl) (pgs_cons (pg_name (i := 8) sc__law_follows.nd rfl (Or.inl rfl)) (pgs_cons (pg_name (i := 6) sc__law_follows.nd rfl (Or.inl rfl)) pgs_nil))))
        (pss_cons (ps_set (i := 2) sc__law_follows.nd rfl (Or.inl rfl) (pe_op op_cat (pv 2) (pe_lst (pa_cons (pe_tup (pa_cons pe_str (pa_cons (pe_op op_add (pv 5) pe_int) (pa_cons (pv 3) (pa_cons pe_str (pa_cons pe_int (pa_cons pe_int pa_nil))))))) (pa_cons (pe_tup (pa_cons pe_str (pa_cons (pe_op op_add (pv 5) pe_int) (pa_cons (pv 3) (pa_cons pe_str (pa_cons pe_non (pa_cons pe_int pa_nil))))))) pa_nil)))))
        (pss_cons (ps_set (i := 2) sc__law_follows.nd rfl (Or.inl rfl) (pe_op op_cat (pv 2) (pe_lst (pa_cons (pe_tup (pa_cons pe_str (pa_cons (pe_op op_add (pv 5) pe_int) (pa_cons (pv 3) (pa_cons pe_str (pa_cons pe_non (pa_cons pe_non pa_nil))))))) (pa_cons (pe_tup (pa_cons pe_str (pa_cons (pe_op op_add (pv 5) pe_int) (pa_cons (pv 3) (pa_cons pe_str (pa_cons pe_non (pa_cons pe_bl pa_nil))))))) pa_nil)))))
        (pss_cons (ps_set (i := 2) sc__law_follows.nd rfl (Or.inl rfl) (pe_op op_cat (pv 2) (pe_lst (pa_cons (pe_tup (pa_cons pe_str (pa_cons (pe_op op_add (pv 5) pe_int) (pa_cons (pv 3) (pa_cons pe_str (pa_cons pe_non pa_nil)))))) (pa_cons (pe_tup (pa_cons pe_str (pa_cons (pe_op op_add (pv 5) pe_int) (pa_cons (pv 3) (pa_cons pe_str (pa_cons pe_non (pa_cons pe_int (pa_cons pe_int pa_nil)))))))) pa_nil)))))
        (pss_cons (ps_set (i := 2) sc__law_follows.nd rfl (Or.inl rfl) (pe_op op_cat (pv 2) (pe_lst (pa_cons (pe_tup (pa_cons pe_str (pa_cons (pe_op op_add (pv 5) pe_int) (pa_cons (pv 3) (pa_cons pe_non (pa_cons pe_int (pa_cons (pe_tup pa_nil) (pa_cons (pe_tup pa_nil) pa_nil)))))))) pa_nil))))
        (pss_cons (ps_if (pt_cmpR op_eq (pv 6) (pv 5) (nomark _))
          (pss_one (ps_expr (pe_bm PySem.F.plainAttrs_list PySem.F.slot_list_append PySem.F.type_list_append mt_append (pv 2) (pa_cons (pe_tup (pa_cons pe_str (pa_cons (pv 6) (pa_cons (pv 3) (pa_cons pe_str (pa_cons pe_non (pa_cons pe_int pa_nil))))))) pa_nil))))
          pss_nil)
        (pss_one (ps_lock (ps_for PassesOwn.never rfl (pi_keys (pv 8)) (pg_name (i := 7) sc__law_follows.nd rfl (Or.inl rfl))
          (pss_one (ps_expr (pe_bm PySem.F.plainAttrs_list PySem.F.slot_list_append PySem.F.type_list_append mt_append (pv 2) (pa_cons (pe_tup (pa_cons pe_str (pa_cons (pe_op op_add (pv 5) pe_int) (pa_cons (pv 3) (pa_cons (pv 7) (pa_cons pe_non (pa_cons pe_int pa_nil))))))) pa_nil))))))))))))))
      (pss_one (ps_ret (pe_op op_cat (pv 2) (pe_op op_rep (pe_lst (pa_cons (pe_tup (pa_cons pe_str (pa_cons (pe_op op_sub (pv 5) pe_int) (pa_cons (pv 3) pa_nil)))) pa_nil)) (pe_callTy call_int1 (by rfl) T.b_int (by decide +kernel) (pa_cons (pe_and (pe_cmpR op_gt (pv 5) pe_int (nomark _)) (pe_one (pe_cmpR (op_neD2 (Nat.lt_of_succ_lt hr.hu)) (pv 4) pe_dnewK (nomark _)))) pa_nil))))))))))), ?_⟩
    refine seq_gen (fun σ' G => ∃ R : Addr, σ' = [some (.ref F), none, none, some .non, some (.ref R), some (.int 0), some (.int 0), none, none, none, none] ∧ FsAt H G R ⟨0, fun _ => none⟩ (fun _ => 0) (fun _ => 0) 1000) (fun N2 hN2 => ?_) ?_
    · walk_at "nm"
      intro R nR
      generalize hg : upd H R _ = G1
      have s1 := sameOf nR hg
      have e1 := atOf hg
      clear hg
      refine ⟨by rw [sizeLine_eq]; first | decide | simp, fun p np => ?_⟩
      generalize hg : upd _ p _ = G2
      have s2 := sameOf np hg
      have e2 := atOf hg
      clear hg
      refine ⟨p, _, rfl, SqT.of e2, rfl, ?_⟩
      refine ⟨_, _, rfl, _, _, rfl, _, _, rfl, _, _, rfl, rfl, hN2 _ _ ⟨R, rfl, ⟨s1.trans s2, nR, ⟨[], s2 _ _ e1, (fun n => rfl), (fun p h => nomatch h), by simp, by simp⟩, fun n h e => nomatch e⟩⟩⟩
    rintro σ' G1 ⟨R, rfl, fs⟩
    refine seq_gen (fun σ' G => ∃ B D w1 w7 w8 w9 w10, σ' = [some (.ref F), w1, none, some .non, some (.ref R), some (.int s.mom), some (.int 0), w7, w8, w9, w10] ∧ FsAt H G R s B D 1011) (fun N2 hN2 => ?_) ?_
    · refine ⟨_, rfl, F, rfl, ⟨_, SqL.of (fs.base _ _ jr.lst)⟩, for_list (K := K) (a := F) (xs := us) (fun j σ' G => ∃ sj B D w1 w7 w8 w9 w10, σ' = [some (.ref F), w1, none, some .non, some (.ref R), some (.int sj.mom), some (.int 0), w7, w8, w9, w10] ∧ FsAt H G R sj B D (1000 + j) ∧ runE 0 sj j ((es.map some).drop j) = .ok s) ⟨⟨0, fun _ => none⟩, _, _, _, _, _, _, _, rfl, fs, jr.run⟩ (fun j σ' G _ p => by obtain ⟨_, _, _, _, _, _, _, _, _, g, _⟩ := p; exact SqL.of (g.base _ _ jr.lst)) ?_ ?_⟩
      · clear fs
        rintro j y σ' G3 hy ⟨sj, B, D, w1, w7, w8, w9, w10, rfl, fs, hrun⟩
        have hj := (List.getElem?_eq_some_iff.mp hy).1
        obtain ⟨ce, hce, hev⟩ := LiI.paired_get jr.en hy
        rw [drop_at hce, runE_cons] at hrun
        cases hst : stepE 0 sj ce with
        | none =>
          rw [hst] at hrun
          cases hrun
        | some s1 =>
          rw [hst] at hrun
          dsimp only at hrun
          dsimp only [gName]
          simp only [List.set_cons_succ, List.set_cons_zero]
          have hj11 : j < 11 := by omega
          have hm := List.mem_of_getElem? hce
          obtain ⟨e, he, rfl⟩ := List.mem_map.mp hm
          have hev3 := hev.same fs.base
          cases e with
          | own m n d =>
            obtain ⟨a, ar, dx, ra, ca, fs0, f, rus, cus, rws, chs, rfl, rfl, ea, m0, n1, f0, har, hr, pr, fr, okr, hc, pc, fc, okc⟩ := en_own hev3
            have lc := jr.own _ _ _ he
            walk_at "nm"
            refine ixT (SqT.of ea) (i := 1) rfl ?_
            refine ixT (SqT.of ea) (i := 0) rfl (eqYes ⟨_, rfl, ?_⟩)
            refine iteT ?_
            dsimp only [sDPut]
            walk_at "nm"
            have okr' : rws.all rowOk = true := by
              unfold rwsOkO at okr
              exact (Bool.and_eq_true_iff.mp okr).1
            obtain ⟨ps, kvs0, rfl, hps, hl0, rep0⟩ := rws_pairs pr okr'
            refine ixT (SqT.of ea) (i := 5) rfl ⟨ra, rfl, ps, hr, kvs0, hps, fun Dn nDn => ?_⟩
            generalize hg : upd G3 Dn _ = G4
            have s4 := sameOf nDn hg
            have eD := atOf hg
            clear hg
            refine ixT (SqT.of (s4 _ _ ea)) (i := 4) rfl ?_
            refine ⟨by rw [sizeLine_eq]; first | decide | simp, fun p1 np1 => ?_⟩
            generalize hg : upd _ p1 _ = G5
            have s5 := sameOf np1 hg
            have e1 := atOf hg
            clear hg
            obtain ⟨as, rfl, hrs, _, hlen, hgt⟩ := chs_rows pc okc
            have k5 := s4.trans s5
            have l1 : (chsOf chs).length ≤ 1 := Nat.le_trans (List.length_filterMap_le _ _) lc
            refine lc_moms ((hc.same s4).same s5) (hrs.tk (.same k5)) (by omega) (fun Q' q' => ⟨_, rfl, ixT (SqT.of (k5 _ _ ea)) (i := 6) rfl q'⟩) (fun x G Q' q' => q') (fun c r G Q' hc' q' => ?_) (fun x => rfl) fun G6 p2 s6 np2 e2 => ?_
            · refine ⟨_, rfl, ?_⟩
              exact ixT (SqT.of hc') (i := 0) rfl q'
            refine ⟨p1, p2, _, _, rfl, rfl, s6 _ _ e1, e2, by rw [List.length_map, sizeLine_eq]; simp; omega, fun p3 np3 => ?_⟩
            generalize hg : upd G6 p3 _ = G7
            have s7 := sameOf np3 hg
            have e3 := atOf hg
            clear hg
            have fin : ∀ x : Int, x = lastOf f (chsOf chs) → 2 ≤ sizeLine ∧ ∀ (p : Addr), G7 p = none → rIxT K (V.ref a) (V.int 2) (upd G7 p (HO.tup [V.ref Dn, V.int x])) fun y H3 => ∃ x, DPut H3 R y (V.ref p) x ∧
                ∃ sj B D w1 w7_1 w8_1 w9_1 w10_1, (some (V.ref a) = w1 ∧ m = sj.mom ∧ w7 = w7_1 ∧ w8 = w8_1 ∧ w9 = w9_1 ∧ w10 = w10_1) ∧ FsAt H x R sj B D (1000 + (j + 1)) ∧ runE 0 sj (j + 1) (List.drop (j + 1) (List.map some es)) = Except.ok s := by
              intro x hx
              refine ⟨by rw [sizeLine_eq]; first | decide | simp, fun p4 np4 => ?_⟩
              generalize hg : upd _ p4 _ = G8
              have s8 := sameOf np4 hg
              have e4 := atOf hg
              clear hg
              have k8 := ((k5.trans s6).trans s7).trans s8
              refine ixT (SqT.of (k8 _ _ ea)) (i := 2) rfl ?_
              have fs8 := fs.same k8
              obtain ⟨kvsR, hR, _, _, _, lkR⟩ := id fs8.dct
              refine ⟨_, DPut.k (k := .inl n) hR (by rw [sizeLine_eq]; omega), ?_⟩
              generalize hg : upd G8 R _ = G9
              have lk0 := length_mergeK kvs0 []
              have rep := rep0 [] _ Rep.nil
              obtain ⟨kvsR0, hR0, _⟩ := id fs.dct
              have eD8 := (((s5.trans s6).trans s7).trans s8) _ _ eD
              have fs9 := fs8.put (m := m) (h := ⟨ar, ctOf rws, cutF 0 f (chsOf chs), cutR 0 (chsOf chs)⟩) (by rw [last_cut, ← hx]; exact e4) eD8 (ne_of_none hR0 nDn).symm rep (by simp at lk0; rw [List.length_map] at fr; rw [List.length_map] at hl0; omega) hR hg
              have es1 := inv_own hst
              rw [← es1] at fs9
              exact ⟨s1, _, _, _, _, _, _, _, ⟨rfl, by rw [es1], rfl, rfl, rfl, rfl⟩, fs9.mono (by omega), hrun⟩
            refine ⟨p3, rfl, ?_⟩
            cases hcs : chsOf chs with
            | nil =>
              rw [hcs] at e3 fin
              exact .inl ⟨f, SqL.of e3, fin f rfl⟩
            | cons r rest =>
              rw [hcs] at l1 e3 fin hgt
              have : rest = [] := List.eq_nil_of_length_eq_zero (by simp at l1; exact List.length_eq_zero_iff.mpr l1)
              subst this
              refine .inr ⟨f, r.1, SqL.of e3, ?_⟩
              rw [if_pos (hgt r (List.mem_singleton.mpr rfl))]
              exact fin _ rfl
          | drop m n =>
            obtain ⟨a, rfl, ea, m0, n1⟩ := en_drop hev3
            obtain ⟨⟨h0, hs0⟩, es1⟩ := inv_drop hst
            walk_at "nm"
            refine ixT (SqT.of ea) (i := 1) rfl ?_
            refine ixT (SqT.of ea) (i := 0) rfl (eqNo (by decide +kernel) ⟨_, rfl, ?_⟩)
            refine iteF ?_
            refine ixT (SqT.of ea) (i := 0) rfl (eqYes ⟨_, rfl, ?_⟩)
            refine iteT ?_
            obtain ⟨kvsR, hR, hval, _, _, lkR⟩ := id fs.dct
            refine ⟨_, rfl, R, rfl, .inl ⟨_, .inl hR⟩, ?_⟩
            dsimp only [tOp, tVar, tC]
            refine ⟨_, rfl, ixT (SqT.of ea) (i := 2) rfl ⟨kvsR, .inl n, _, hR, rfl, by rw [hval n, hs0]; rfl, ?_⟩⟩
            generalize hg : upd G3 R _ = G4
            have fs4 := fs.drop (m := m) hR hg
            rw [← es1] at fs4
            exact ⟨s1, _, _, _, _, _, _, _, ⟨rfl, by rw [es1], rfl, rfl, rfl, rfl⟩, fs4.mono (by omega), hrun⟩
          | chg m n z o w =>
            obtain ⟨a, rfl, ea, m0, n1, hz1, hz2, hz3⟩ := en_chg hev3
            obtain ⟨h0, hs0, es1⟩ := inv_chg hst
            walk_at "nm"
            refine ixT (SqT.of ea) (i := 1) rfl ?_
            refine ixT (SqT.of ea) (i := 0) rfl (eqNo (by decide +kernel) ⟨_, rfl, ?_⟩)
            refine iteF ?_
            refine ixT (SqT.of ea) (i := 0) rfl (eqNo (by decide +kernel) ⟨_, rfl, ?_⟩)
            refine iteF ?_
            obtain ⟨kvsR, hR, hval, _, _, lkR⟩ := id fs.dct
            obtain ⟨hB, nD, kv, hD, rep, lk⟩ := fs.sh n h0 hs0
            dsimp only [tDGet, tOp, tVar, tC]
            refine ⟨_, rfl, _, rfl, ixT (SqT.of ea) (i := 2) rfl ⟨R, _, rfl, dget_of (k := .inl n) hR (by rw [hval n, hs0]; rfl), ixT (SqT.of hB) (i := 0) rfl ⟨D n, kv, rfl, hD, fun p1 np1 => ?_⟩⟩⟩
            generalize hg : upd G3 p1 _ = G4
            have s4 := sameOf np1 hg
            have e1 := atOf hg
            clear hg
            have ea4 := s4 _ _ ea
            dsimp only [sDPut, tOp, tVar, tC]
            refine ⟨_, rfl, ixT (SqT.of ea4) (i := 5) rfl ⟨_, rfl, _, rfl, ixT (SqT.of ea4) (i := 3) rfl ⟨p1, _, rfl, DPut.k (k := .inr z) e1 (by rw [sizeLine_eq]; omega), ?_⟩⟩⟩
            generalize hg : upd G4 p1 _ = G5
            have x5 : Ex p1 G4 G5 := by
              rw [← hg]
              exact Ex.refl.upd
            have e5 := atOf hg
            clear hg
            have s5 : Same G3 G5 := fun c o h => x5 _ _ (ne_of_none h np1) (s4 _ _ h)
            have lk5 := length_putK kv (.inr z) (oV w)
            dsimp only [tTup, tCons, tCB, tNil]
            refine lc_items (c := isVal) e5 (by omega) (fun G Q' x q' => ⟨_, rfl, q'⟩) (fun k v T G Q' hm hT q' => ?_) (fun T G Q' q' => ⟨_, rfl, q'⟩) (fun x => rfl) fun G6 L ts s6 nL hL hp => ?_
            · refine ⟨_, rfl, ?_⟩
              dsimp only [tC]
              exact ixT (SqT.of hT) (i := 1) rfl ⟨rfl, _, rfl, q' G (Same.refl _)⟩
            have hp2 : Paired (fun p kv => SqT K G6 p [kV kv.1, kv.2]) ts ((putK kv (.inr z) (oV w)).filter isVal) := paired_imp hp fun _ _ _ g => SqT.of g
            refine ⟨L, rfl, ts, SqL.of hL, _, hp2, fun p2 np2 => ⟨_, rfl, ?_⟩⟩
            have r6 := rep.chgN z w
            rw [mergeK_nil r6.nd]
            generalize hg : upd G6 p2 _ = G7
            have s7 := sameOf np2 hg
            have e7 := atOf hg
            clear hg
            refine ⟨by rw [sizeLine_eq]; first | decide | simp, fun p3 np3 => ?_⟩
            generalize hg : upd _ p3 _ = G8
            have s8 := sameOf np3 hg
            have e8 := atOf hg
            clear hg
            have k8 := ((s5.trans s6).trans s7).trans s8
            have fs8 := fs.same k8
            obtain ⟨kvs8, hR8, _, _, _, lk8⟩ := id fs8.dct
            refine ⟨_, rfl, _, rfl, ixT (SqT.of (k8 _ _ ea)) (i := 2) rfl ⟨R, _, rfl, DPut.k (k := .inl n) hR8 (by rw [sizeLine_eq]; omega), ?_⟩⟩
            generalize hg : upd G8 R _ = G9
            have fs9 := fs8.put (m := m) (n := n) (h := ⟨h0.ar, updC h0.c z w, cutF 0 h0.f (h0.rs ++ [(m, z, o, w)]), cutR 0 (h0.rs ++ [(m, z, o, w)])⟩) (by rw [last_cut, last_snoc]; exact e8) (s8 _ _ e7) (ne_of_none ((s5.trans s6) _ _ hR) np2).symm r6 (Nat.le_trans (List.length_filter_le _ _) (by omega)) hR8 hg
            rw [← es1] at fs9
            exact ⟨s1, _, _, _, _, _, _, _, by rw [es1], fs9.mono (by omega), hrun⟩
      · rintro σ' G2 ⟨sj, B, D, w1, w7, w8, w9, w10, rfl, fs, hrun⟩
        have hl : us.length = (es.map some).length := jr.en.length
        rw [hl, List.drop_length, runE_nil] at hrun
        cases hrun
        exact hN2 _ _ ⟨B, D, _, _, _, _, _, rfl, fs.mono (by omega)⟩
    clear fs
    rintro σ' G2 ⟨B, D, w1, w7, w8, w9, w10, rfl, fs⟩
    refine seq_gen (fun σ' G => ∃ O, σ' = [some (.ref F), w1, some (.ref O), some .non, some (.ref R), some (.int s.mom), some (.int 0), w7, w8, w9, w10] ∧ FsAt H G R s B D 1011 ∧ G O = some (.lst []) ∧ H O = none) (fun N2 hN2 => ?_) ?_
    · walk_at "nm"
      refine ⟨by rw [sizeLine_eq]; first | decide | simp, fun O nO => ?_⟩
      generalize hg : upd _ O _ = G3
      have s3 := sameOf nO hg
      have e3 := atOf hg
      clear hg
      exact hN2 _ _ ⟨O, rfl, fs.same s3, e3, fs.base.free nO⟩
    clear fs
    rintro σ' G3 ⟨O, rfl, fs, eO, nO⟩
    refine seq_gen (fun σ' G => ∃ L ys O w1 num w6 w7 w8 w9 w10 vs cs, σ' = [some (.ref F), w1, some (.ref O), some num, some (.ref R), some (.int s.mom), w6, w7, w8, w9, w10] ∧ OdAt K H G R s B D L ys O vs cs ∧ (num = .non ∧ (∀ n, s.sh n = none) ∨ ∃ n h, num = .int n ∧ s.sh n = some h) ∧ vs.length ≤ 50) (fun N2 hN2 => ?_) ?_
    · obtain ⟨kvs, hR, hval, hint, hnd, lk⟩ := id fs.dct
      obtain ⟨ks, eks⟩ := keys_ints hint
      have there : ∀ y, y ∈ ks → ∃ h, s.sh y = some h := fun y hy => by
        have h1 : (Sum.inl y : Key) ∈ kvs.map (·.1) := by
          rw [eks]
          exact List.mem_map.mpr ⟨y, hy, rfl⟩
        obtain ⟨p, hp, ep⟩ := List.mem_map.mp h1
        obtain ⟨pk, pv⟩ := p
        cases ep
        have h2 := valV_mem hnd hp
        rw [hval y] at h2
        cases e : s.sh y with
        | none =>
          rw [e] at h2
          cases h2
        | some h => exact ⟨h, rfl⟩
      have lks : ks.length ≤ 2 := by
        have n1 : (ks.map (Sum.inl : Int → Key)).Nodup := by rw [← eks]; exact hnd
        have := nodup_len (m := [(Sum.inl 1 : Key), Sum.inl 2]) n1 fun k hk => by
          obtain ⟨y, hy, rfl⟩ := List.mem_map.mp hk
          obtain ⟨h, e⟩ := there y hy
          rcases jr.ok.num y h e with rfl | rfl <;> simp
        simpa using this
      have none_of : ks = [] → ∀ n, s.sh n = none := fun e n => by
        subst e
        have : kvs = [] := by simpa using eks
        subst this
        have h2 := hval n
        cases e : s.sh n with
        | none => rfl
        | some h =>
          rw [e] at h2
          cases h2
      refine ⟨_, rfl, R, kvs, ks, rfl, .inl hR, eks, by omega, fun ys L pm _ nL => ?_⟩
      generalize hg : upd G3 L _ = G4
      have s4 := sameOf nL hg
      have eL := atOf hg
      clear hg
      have ly : ys.length ≤ 2 := by rw [pm.length_eq]; exact lks
      refine ⟨L, rfl, ⟨_, SqL.of eL⟩, for_list (K := K) (a := L) (xs := ys.map V.int) (fun j σ' G => ∃ O w1 num w6 w7 w8 w9 w10 vs cs, σ' = [some (.ref F), w1, some (.ref O), some num, some (.ref R), some (.int s.mom), w6, w7, w8, w9, w10] ∧ OdAt K H G R s B D L ys O vs cs ∧ (j = 0 ∧ num = .non ∨ ∃ n h, num = .int n ∧ s.sh n = some h) ∧ vs.length ≤ 12 * j) ⟨O, _, _, _, _, _, _, _, [], [], rfl, ⟨fs.same s4, s4 _ _ eO, nO, eL, ne_of_none eO nL, .nil, fun c h => nomatch h⟩, .inl ⟨rfl, rfl⟩, by simp⟩ (fun j σ' G _ p => by obtain ⟨_, _, _, _, _, _, _, _, _, _, _, g, _⟩ := p; exact SqL.of g.eL) ?_ ?_⟩
      · clear fs eL s4 nL eO nO
        rintro j y σ' G5 hy ⟨O, w1, num, w6, w7, w8, w9, w10, vs, cs, rfl, od, _, lv⟩
        obtain ⟨n, hn, rfl⟩ : ∃ n, ys[j]? = some n ∧ y = V.int n := by
          rw [List.getElem?_map] at hy
          cases e : ys[j]? with
          | none =>
            rw [e] at hy
            cases hy
          | some n =>
            rw [e] at hy
            cases hy
            exact ⟨n, rfl, rfl⟩
        have hj : j < 2 := by
          have := (List.getElem?_eq_some_iff.mp hn).1
          omega
        obtain ⟨h, hs⟩ := there n (pm.mem_iff.mp (List.mem_of_getElem? hn))
        have n1 : 1 ≤ n := by rcases jr.ok.num n h hs with rfl | rfl <;> omega
        have m0 := jr.ok.mom
        clear hR hval
        dsimp only [gName]
        simp only [List.set_cons_succ, List.set_cons_zero]
        -- the shard
        refine seq_gen (fun σ' G => ∃ kv, σ' = [some (.ref F), w1, some (.ref O), some (.int n), some (.ref R), some (.int s.mom), some (.int (lastOf h.f h.rs)), w7, some (.ref (D n)), w9, w10] ∧ OdAt K H G R s B D L ys O vs cs ∧ G (D n) = some (.dK kv) ∧ Rep kv h.c) (fun N3 hN3 => ?_) ?_
        · obtain ⟨kvs, hR, hval, _⟩ := id od.fs.dct
          obtain ⟨hB, nD, kv, hD, rep, lk⟩ := od.fs.sh n h hs
          dsimp only [tAsg, tDGet, tVar]
          exact ⟨_, rfl, _, rfl, R, _, rfl, dget_of (k := .inl n) hR (by rw [hval n, hs]; rfl), B n, _, rfl, SqT.of hB, rfl, _, _, rfl, _, _, rfl, rfl, hN3 _ _ ⟨kv, rfl, od, hD, rep⟩⟩
        clear od
        rintro σ' G6 ⟨kv, rfl, od, hD, rep⟩
        have z0 : h.c (Str.ofString "zz") = none := by
          cases e : h.c (Str.ofString "zz") with
          | none => rfl
          | some _ => exact absurd (jr.ok.key n h _ hs (by rw [e]; simp)) zz_not
        replace lv : vs.length ≤ 12 * j + 0 := lv
        refine seq_gen (fun σ' G => ∃ O vs cs, σ' = [some (.ref F), w1, some (.ref O), some (.int n), some (.ref R), some (.int s.mom), some (.int (lastOf h.f h.rs)), w7, some (.ref (D n)), w9, w10] ∧ OdAt K H G R s B D L ys O vs cs ∧ G (D n) = some (.dK kv) ∧ vs.length ≤ 12 * j + 2) (fun N3 hN3 => ?_) ?_
        · walk_at "nm"
          refine ⟨by rw [sizeLine_eq]; first | decide | simp, fun u1 nu1 => ?_⟩
          generalize hg : upd _ u1 _ = X1
          have z1 := sameOf nu1 hg
          have q1 := atOf hg
          clear hg
          refine ⟨by rw [sizeLine_eq]; first | decide | simp, fun u2 nu2 => ?_⟩
          generalize hg : upd _ u2 _ = X2
          have z2 := sameOf nu2 hg
          have q2 := atOf hg
          clear hg
          refine ⟨by rw [sizeLine_eq]; first | decide | simp, fun u3 nu3 => ?_⟩
          generalize hg : upd _ u3 _ = X3
          have z3 := sameOf nu3 hg
          have q3 := atOf hg
          clear hg
          have kk := ((z1.trans z2).trans z3)
          refine ⟨O, u3, _, _, rfl, rfl, kk _ _ od.eO, q3, by rw [sizeLine_eq]; simp; omega, fun P nP => ?_⟩
          generalize hg : upd X3 P _ = Y
          have zP := sameOf nP hg
          have eP := atOf hg
          clear hg
          have kY := kk.trans zP
          have nO' : G6 P = none := by
            cases e : G6 P with
            | none => rfl
            | some o' => rw [kk _ _ e] at nP; cases nP
          refine hN3 _ _ ⟨P, _, _, rfl, od.more kY nO' eP (.cons (fun G2 k2 => en_chg_mk (o := some 5) (w := some 6) (kt ((z2.trans (z3.trans zP)) _ _ q1) k2) (show 0 ≤ s.mom + 9 by omega) n1 zz_ok rfl) (.cons (fun G2 k2 => en_chg_no (z := Str.ofString "A") (o := none) (w := some 6) (kt ((z3.trans zP) _ _ q2) k2) (show 0 ≤ s.mom + 9 by omega) n1 (by decide +kernel) (by decide +kernel) (by decide +kernel)) .nil)) (fun c hc => ?_), kY _ _ hD, by rw [List.length_append]; simp; omega⟩
          simp only [List.mem_cons, List.not_mem_nil, or_false] at hc
          rcases hc with rfl | rfl
          · exact ref_chg hs (fun e => by rw [z0] at e; cases e.1)
          · rfl
        clear od hD lv
        rintro σ' G6 ⟨O, vs, cs, rfl, od, hD, lv⟩
        refine seq_gen (fun σ' G => ∃ O vs cs, σ' = [some (.ref F), w1, some (.ref O), some (.int n), some (.ref R), some (.int s.mom), some (.int (lastOf h.f h.rs)), w7, some (.ref (D n)), w9, w10] ∧ OdAt K H G R s B D L ys O vs cs ∧ G (D n) = some (.dK kv) ∧ vs.length ≤ 12 * j + 4) (fun N3 hN3 => ?_) ?_
        · walk_at "nm"
          refine ⟨by rw [sizeLine_eq]; first | decide | simp, fun u1 nu1 => ?_⟩
          generalize hg : upd _ u1 _ = X1
          have z1 := sameOf nu1 hg
          have q1 := atOf hg
          clear hg
          refine ⟨by rw [sizeLine_eq]; first | decide | simp, fun u2 nu2 => ?_⟩
          generalize hg : upd _ u2 _ = X2
          have z2 := sameOf nu2 hg
          have q2 := atOf hg
          clear hg
          refine ⟨by rw [sizeLine_eq]; first | decide | simp, fun u3 nu3 => ?_⟩
          generalize hg : upd _ u3 _ = X3
          have z3 := sameOf nu3 hg
          have q3 := atOf hg
          clear hg
          have kk := ((z1.trans z2).trans z3)
          refine ⟨O, u3, _, _, rfl, rfl, kk _ _ od.eO, q3, by rw [sizeLine_eq]; simp; omega, fun P nP => ?_⟩
          generalize hg : upd X3 P _ = Y
          have zP := sameOf nP hg
          have eP := atOf hg
          clear hg
          have kY := kk.trans zP
          have nO' : G6 P = none := by
            cases e : G6 P with
            | none => rfl
            | some o' => rw [kk _ _ e] at nP; cases nP
          refine hN3 _ _ ⟨P, _, _, rfl, od.more kY nO' eP (.cons (fun G2 k2 => en_chg_no (z := Str.ofString "zz") (o := none) (w := none) (kt ((z2.trans (z3.trans zP)) _ _ q1) k2) (show 0 ≤ s.mom + 9 by omega) n1 (by decide +kernel) (by decide +kernel) (by decide +kernel)) (.cons (fun G2 k2 => .chgOdd (o := none) (kt ((z3.trans zP) _ _ q2) k2) (show 0 ≤ s.mom + 9 by omega) n1 (by decide +kernel) (.bl true) (by simp) rfl) .nil)) (fun c hc => ?_), kY _ _ hD, by rw [List.length_append]; simp; omega⟩
          simp only [List.mem_cons, List.not_mem_nil, or_false] at hc
          rcases hc with rfl | rfl
          · rfl
          · rfl
        clear od hD lv
        rintro σ' G6 ⟨O, vs, cs, rfl, od, hD, lv⟩
        refine seq_gen (fun σ' G => ∃ O vs cs, σ' = [some (.ref F), w1, some (.ref O), some (.int n), some (.ref R), some (.int s.mom), some (.int (lastOf h.f h.rs)), w7, some (.ref (D n)), w9, w10] ∧ OdAt K H G R s B D L ys O vs cs ∧ G (D n) = some (.dK kv) ∧ vs.length ≤ 12 * j + 6) (fun N3 hN3 => ?_) ?_
        · walk_at "nm"
          refine ⟨by rw [sizeLine_eq]; first | decide | simp, fun u1 nu1 => ?_⟩
          generalize hg : upd _ u1 _ = X1
          have z1 := sameOf nu1 hg
          have q1 := atOf hg
          clear hg
          refine ⟨by rw [sizeLine_eq]; first | decide | simp, fun u2 nu2 => ?_⟩
          generalize hg : upd _ u2 _ = X2
          have z2 := sameOf nu2 hg
          have q2 := atOf hg
          clear hg
          refine ⟨by rw [sizeLine_eq]; first | decide | simp, fun u3 nu3 => ?_⟩
          generalize hg : upd _ u3 _ = X3
          have z3 := sameOf nu3 hg
          have q3 := atOf hg
          clear hg
          have kk := ((z1.trans z2).trans z3)
          refine ⟨O, u3, _, _, rfl, rfl, kk _ _ od.eO, q3, by rw [sizeLine_eq]; simp; omega, fun P nP => ?_⟩
          generalize hg : upd X3 P _ = Y
          have zP := sameOf nP hg
          have eP := atOf hg
          clear hg
          have kY := kk.trans zP
          have nO' : G6 P = none := by
            cases e : G6 P with
            | none => rfl
            | some o' => rw [kk _ _ e] at nP; cases nP
          refine hN3 _ _ ⟨P, _, _, rfl, od.more kY nO' eP (.cons (fun G2 k2 => .chgLen (kt ((z2.trans (z3.trans zP)) _ _ q1) k2) (by simp) (show 0 ≤ s.mom + 9 by omega) n1 (by simp)) (.cons (fun G2 k2 => .chgLen (kt ((z3.trans zP) _ _ q2) k2) (by simp) (show 0 ≤ s.mom + 9 by omega) n1 (by simp)) .nil)) (fun c hc => ?_), kY _ _ hD, by rw [List.length_append]; simp; omega⟩
          simp only [List.mem_cons, List.not_mem_nil, or_false] at hc
          rcases hc with rfl | rfl
          · rfl
          · rfl
        clear od hD lv
        rintro σ' G6 ⟨O, vs, cs, rfl, od, hD, lv⟩
        refine seq_gen (fun σ' G => ∃ O vs cs, σ' = [some (.ref F), w1, some (.ref O), some (.int n), some (.ref R), some (.int s.mom), some (.int (lastOf h.f h.rs)), w7, some (.ref (D n)), w9, w10] ∧ OdAt K H G R s B D L ys O vs cs ∧ G (D n) = some (.dK kv) ∧ vs.length ≤ 12 * j + 7) (fun N3 hN3 => ?_) ?_
        · walk_at "nm"
          refine ⟨by rw [sizeLine_eq]; first | decide | simp, fun u1 nu1 => ?_⟩
          generalize hg : upd _ u1 _ = X1
          have z1 := sameOf nu1 hg
          have q1 := atOf hg
          clear hg
          refine ⟨by rw [sizeLine_eq]; first | decide | simp, fun u2 nu2 => ?_⟩
          generalize hg : upd _ u2 _ = X2
          have z2 := sameOf nu2 hg
          have q2 := atOf hg
          clear hg
          refine ⟨by rw [sizeLine_eq]; first | decide | simp, fun u3 nu3 => ?_⟩
          generalize hg : upd _ u3 _ = X3
          have z3 := sameOf nu3 hg
          have q3 := atOf hg
          clear hg
          refine ⟨by rw [sizeLine_eq]; first | decide | simp, fun u4 nu4 => ?_⟩
          generalize hg : upd _ u4 _ = X4
          have z4 := sameOf nu4 hg
          have q4 := atOf hg
          clear hg
          have kk := (((z1.trans z2).trans z3).trans z4)
          refine ⟨O, u4, _, _, rfl, rfl, kk _ _ od.eO, q4, by rw [sizeLine_eq]; simp; omega, fun P nP => ?_⟩
          generalize hg : upd X4 P _ = Y
          have zP := sameOf nP hg
          have eP := atOf hg
          clear hg
          have kY := kk.trans zP
          have nO' : G6 P = none := by
            cases e : G6 P with
            | none => rfl
            | some o' => rw [kk _ _ e] at nP; cases nP
          refine hN3 _ _ ⟨P, _, _, rfl, od.more kY nO' eP (.cons (fun G2 k2 => .own (b := none) (kt ((z4.trans zP) _ _ q3) k2) (by simp) (show 0 ≤ s.mom + 9 by omega) n1 (.arc (kt ((z4.trans zP) _ _ q3) k2) .non rfl (fun _ _ z => by cases z))) .nil) (fun c hc => ?_), kY _ _ hD, by rw [List.length_append]; simp; omega⟩
          simp only [List.mem_cons, List.not_mem_nil, or_false] at hc
          subst hc
          rfl
        clear od hD lv
        rintro σ' G6 ⟨O, vs, cs, rfl, od, hD, lv⟩
        -- no change at the moment itself
        refine seq_gen (fun σ' G => ∃ vs cs, σ' = [some (.ref F), w1, some (.ref O), some (.int n), some (.ref R), some (.int s.mom), some (.int (lastOf h.f h.rs)), w7, some (.ref (D n)), w9, w10] ∧ OdAt K H G R s B D L ys O vs cs ∧ G (D n) = some (.dK kv) ∧ vs.length ≤ 12 * j + 8) (fun N3 hN3 => ?_) ?_
        · walk_at "nm"
          refine eqIs ⟨_, rfl, ?_⟩
          by_cases hl : lastOf h.f h.rs = s.mom
          · rw [decide_eq_true hl]
            refine iteT ?_
            refine ⟨_, rfl, isList od.eO, ?_⟩
            walk_at "nm"
            refine ⟨by rw [sizeLine_eq]; first | decide | simp, fun t nt => ?_⟩
            generalize hg : upd _ t _ = G7
            have z7 := sameOf nt hg
            have et := atOf hg
            clear hg
            have od7 := od.same z7
            refine ⟨O, _, _, rfl, rfl, od7.eO, by rw [sizeLine_eq]; omega, ?_⟩
            generalize hg : upd G7 O _ = G8
            have x8 : Ex O G7 G8 := by
              rw [← hg]
              exact Ex.refl.upd
            exact hN3 _ _ ⟨_, _, rfl, od7.app hg (d := some (.chg (lastOf h.f h.rs) n (Str.ofString "zz") none (some 6))) (fun G2 k2 => en_chg_mk (o := none) (w := some 6) (kt et k2) (by omega) n1 zz_ok rfl) (ref_chg hs fun e => by omega), x8 _ _ (ne_of hD od.eO (fun z => by cases z)) (z7 _ _ hD), by rw [List.length_append]; simp; omega⟩
          · rw [decide_eq_false hl]
            exact iteF (hN3 _ _ ⟨_, _, rfl, od, hD, by omega⟩)
        clear od hD lv
        rintro σ' G7 ⟨vs, cs, rfl, od, hD, lv⟩
        -- the keys that are there
        have l4 : kv.length ≤ 4 := by
          have := nodup_len (m := abcd.map (Sum.inr : Str → Key)) rep.nd fun k hk => by
            obtain ⟨p, hp, rfl⟩ := List.mem_map.mp hk
            obtain ⟨z, v, rfl⟩ := rep.kv p hp
            obtain ⟨i, _, hz⟩ := rep.mem hp
            exact List.mem_map.mpr ⟨z, jr.ok.key n h z hs (by rw [hz]; simp), rfl⟩
          simpa [abcd] using this
        refine ⟨D n, _, hD, trivial, fun ob => ?_⟩
        refine ⟨_, rfl, D n, ob, rfl, .inl ⟨kv, upd_same, for_it walk_keys (fun i σ' H2 => ∃ vs cs w7, σ' = [some (.ref F), w1, some (.ref O), some (.int n), some (.ref R), some (.int s.mom), some (.int (lastOf h.f h.rs)), w7, some (.ref (D n)), w9, w10] ∧ H2 (D n) = some (.frz ob (.dK kv)) ∧ OdAt K H (upd H2 (D n) (.dK kv)) R s B D L ys O vs cs ∧ vs.length ≤ 12 * j + 8 + i) ⟨vs, cs, w7, rfl, upd_same, by rw [updTwice, updSelf hD]; exact od, by omega⟩ (fun i σ H _ p => by obtain ⟨_, _, _, _, g, _⟩ := p; exact g) ?_ ?_⟩⟩
        · clear od hD lv
          rintro i x σ' H2 H3 hi ⟨vs, cs, w7, rfl, hf, od2, lv2⟩ ⟨rfl, k, v, hkv, rfl⟩
          have hm := List.mem_of_getElem? hkv
          obtain ⟨z, i', e⟩ := rep.kv (k, v) hm
          cases e
          obtain ⟨iv, _, hz⟩ := rep.mem hm
          have hza := jr.ok.key n h z hs (by rw [hz]; simp)
          dsimp only [gName]
          simp only [List.set_cons_succ, List.set_cons_zero]
          have nOD : O ≠ D n := fun e => by
            have := od2.eO
            rw [e, upd_same] at this
            cases this
          have eO2 : H3 O = some (.lst vs) := by
            have := od2.eO
            rwa [upd_ne nOD] at this
          walk_at "nm"
          refine ⟨_, rfl, isList eO2, ?_⟩
          walk_at "nm"
          refine ⟨by rw [sizeLine_eq]; decide, fun t nt => ?_⟩
          have ntD : t ≠ D n := (ne_of_none hf nt).symm
          generalize hg : upd H3 t _ = H4
          have z4 := sameOf nt hg
          have c4 : upd H4 (D n) (.dK kv) = upd (upd H3 (D n) (.dK kv)) t (.tup [.str (Str.ofString "change"), .int (s.mom + 9), .int n, .str z, .non, .int 6]) := by
            rw [← hg]
            exact updComm ntD
          clear hg
          have od4 : OdAt K H (upd H4 (D n) (.dK kv)) R s B D L ys O vs cs := by
            rw [c4]
            exact od2.same (Same.upd (Same.refl _) (by rw [upd_ne ntD]; exact nt))
          have et : upd H4 (D n) (.dK kv) t = some (.tup [.str (Str.ofString "change"), .int (s.mom + 9), .int n, .str z, .non, .int 6]) := by
            rw [c4]
            exact upd_same
          refine ⟨O, _, _, rfl, rfl, z4 _ _ eO2, by rw [sizeLine_eq]; omega, ?_⟩
          refine ⟨by rw [upd_ne nOD.symm]; exact z4 _ _ hf, vs ++ [.ref t], cs ++ [some (.chg (s.mom + 9) n z none (some 6))], ?_, by rw [List.length_append]; simp; omega⟩
          rw [updComm nOD]
          exact od4.app rfl (fun G2 k2 => en_chg_mk (o := none) (w := some 6) (kt et k2) (by omega) n1 (abcd_ok z hza) rfl) (ref_chg hs fun e => by rw [hz] at e; cases e.1)
        · rintro σ' H2 ⟨vs, cs, w7, rfl, hf, od2, lv2⟩
          exact ⟨hf, O, _, .int n, _, _, _, _, _, vs, cs, rfl, od2, .inr ⟨n, h, rfl, hs⟩, by omega⟩
      · rintro σ' G5 ⟨O, w1, num, w6, w7, w8, w9, w10, vs, cs, rfl, od, hnum, lv⟩
        rw [List.length_map] at hnum lv
        refine hN2 _ _ ⟨L, ys, O, w1, num, w6, w7, w8, w9, w10, vs, cs, rfl, od, ?_, by omega⟩
        rcases hnum with ⟨e, rfl⟩ | hnum
        · exact .inl ⟨rfl, none_of (List.eq_nil_of_length_eq_zero (by rw [← pm.length_eq]; exact e))⟩
        · exact .inr hnum
    clear fs eO nO
    rintro σ' G4 ⟨L, ys, O, w1, num, w6, w7, w8, w9, w10, vs, cs, rfl, od, hnum, lv⟩
    walk_at "nm"
    refine ⟨by rw [sizeLine_eq]; first | decide | simp, fun t nt => ?_⟩
    generalize hg : upd _ t _ = G5
    have z5 := sameOf nt hg
    have et := atOf hg
    clear hg
    refine ⟨by rw [sizeLine_eq]; first | decide | simp, fun l nl => ?_⟩
    generalize hg : upd _ l _ = G6
    have z6 := sameOf nl hg
    have el := atOf hg
    clear hg
    have k6 := z5.trans z6
    have od6 := od.same k6
    have fin : ∀ (G : Hp) (b : Int) (ds : List (Option En)), Same G6 G → (b = 0 ∧ ds = [] ∨ b = 1 ∧ ∃ d, ds = [d] ∧ (∀ G2, Kp G G2 → EnV K G2 (.ref t) d) ∧ stepE 0 s d = none) → rRep (.ref l) (.int b) G fun y H2 => rCat (.ref O) y H2 Q := by
      intro G b ds k hb
      refine ⟨l, b, _, rfl, rfl, k _ _ el, by rcases hb with ⟨rfl, _⟩ | ⟨rfl, _⟩ <;> decide, by rcases hb with ⟨rfl, _⟩ | ⟨rfl, _⟩ <;> decide, by rcases hb with ⟨rfl, _⟩ | ⟨rfl, _⟩ <;> (rw [sizeLine_eq]; simp), fun p np => ?_⟩
      generalize hg : upd G p _ = G7
      have z7 := sameOf np hg
      have e7 := atOf hg
      clear hg
      have od7 := od6.same (k.trans z7)
      refine ⟨O, p, _, _, rfl, rfl, od7.eO, e7, by rcases hb with ⟨rfl, _⟩ | ⟨rfl, _⟩ <;> (rw [sizeLine_eq]; simp; omega), fun P nP => ?_⟩
      generalize hg : upd G7 P _ = G8
      have z8 := sameOf nP hg
      have e8 := atOf hg
      clear hg
      rcases hb with ⟨rfl, rfl⟩ | ⟨rfl, d, rfl, pd, rd⟩
      · have od8 := od7.more (ws := []) (ds := []) z8 nP (by rw [e8]; rfl) .nil (fun c h => nomatch h)
        exact q G8 P _ _ od8.fs.base od8.eO (paired_imp od8.pr fun _ _ _ h => h G8 (.of (Same.refl _))) od8.no (by simp; omega)
      · have od8 := od7.more (ws := [.ref t]) (ds := [d]) z8 nP (by rw [e8]; rfl) (.cons (fun G2 k2 => pd G2 ((Kp.of (z7.trans z8)).trans k2)) .nil) (fun c h => by rw [List.mem_singleton.mp h]; exact rd)
        exact q G8 P _ _ od8.fs.base od8.eO (paired_imp od8.pr fun _ _ _ h => h G8 (.of (Same.refl _))) od8.no (by simp; omega)
    by_cases hm : 0 < s.mom
    · rw [if_pos hm]
      intro E0 nE
      generalize hg : upd G6 E0 _ = G7
      have z7 := sameOf nE hg
      have eE := atOf hg
      clear hg
      obtain ⟨kvs, hR, hval, hint, hnd, lk⟩ := (od6.same z7).fs.dct
      rcases hnum with ⟨rfl, hn⟩ | ⟨n, h, rfl, hs⟩
      · have e0 : kvs = [] := by
          cases kvs with
          | nil => rfl
          | cons p r =>
            obtain ⟨n, e⟩ := hint p List.mem_cons_self
            have := valV_mem (k := p.1) (v := p.2) hnd List.mem_cons_self
            rw [e, hval n, hn n] at this
            cases this
        subst e0
        refine .inl ⟨R, E0, [], [], rfl, rfl, hR, eE, rfl, (fun p h => nomatch h), .inr ⟨false, rfl, ?_⟩⟩
        exact fin G7 _ [] z7 (.inl ⟨rfl, rfl⟩)
      · have ne : kvs.length ≠ ([] : List (Key × V)).length := fun e => by
          have e0 : kvs = [] := List.eq_nil_of_length_eq_zero e
          subst e0
          have := hval n
          rw [hs] at this
          cases this
        refine .inr ⟨R, E0, kvs, [], rfl, rfl, hR, eE, ne, .inr ⟨true, rfl, ?_⟩⟩
        have n1 : 1 ≤ n := by rcases jr.ok.num n h hs with rfl | rfl <;> omega
        exact fin G7 _ [some (.drop (s.mom - 1) n)] z7 (.inr ⟨rfl, _, rfl, fun G2 k2 => .drop (kt (z7 _ _ (z6 _ _ et)) k2) (by omega) n1, ref_drop (by omega)⟩)
    · rw [if_neg hm]
      exact .inr (fin G6 0 [] (Same.refl _) (.inl ⟨rfl, rfl⟩))

/-! the law's end -/
def entD (n : Option Int) : PyData := .list [.str "entries", .bool true, match n with | some i => .int i | none => .none]
def entV (n : Option Int) : List V := [.str "entries", .bl true, match n with | some i => .int i | none => .non]
theorem dp_ent {K : Frag} {H : Hp} {a : Addr} {n : Option Int} (h : H a = some (.lst (entV n))) : Dp K H (.ref a) (entD n) := .lst (SqL.of h) (.cons (.str _) (.cons (.bl _) (.cons (by cases n with | none => exact .non | some i => exact .int _) .nil)))
theorem dp_two {K : Frag} {H : Hp} {l a b : Addr} {d : PyData} (h : H l = some (.lst [.ref a, .ref b])) (ha : Dp K H (.ref a) d) (hb : Dp K H (.ref b) d) : Dp K H (.ref l) (.list [d, d]) := .lst (SqL.of h) (.cons ha (.cons hb .nil))
def numD (z : Str) : PyData := .list [.str "number", .str z]
theorem dp_num {K : Frag} {H : Hp} {a : Addr} {z : Str} (h : H a = some (.lst [.str "number", .str z])) : Dp K H (.ref a) (numD z) := .lst (SqL.of h) (.cons (.str _) (.cons (.str _) .nil))
theorem sh_ent (n : Option Int) : SeqAt.shaped (.list [entD n, entD n]) = true := by
  cases n with
  | none => decide +kernel
  | some i =>
    refine Bool.and_eq_true_iff.mpr ⟨?_, decide_eq_true (show (2 : Nat) ≤ 64 by decide)⟩
    show ((PyData.strOk "entries" && (true && (true && true))) && ((PyData.strOk "entries" && (true && (true && true))) && true)) = true
    decide +kernel
theorem sh_num {z : Str} (h : PyData.strOk z = true) : SeqAt.shaped (.list [numD z, numD z]) = true := by
  refine Bool.and_eq_true_iff.mpr ⟨?_, decide_eq_true (show (2 : Nat) ≤ 64 by decide)⟩
  show (((PyData.strOk "number") && ((PyData.strOk z) && true)) && (((PyData.strOk "number") && ((PyData.strOk z) && true)) && true)) = true
  rw [h]
  decide +kernel
theorem two_lst {H : Hp} {p : V} {l : Addr} {Q : VK} (h : H l = some (.lst [p])) (q : ∀ G r, Same H G → G r = some (.lst [p, p]) → Q (.ref r) G) : rRep (.ref l) (.int 2) H Q :=
  ⟨l, 2, [p], rfl, rfl, h, by decide, by decide, by rw [sizeLine_eq]; simp, fun r nr => q _ r (Same.upd (Same.refl _) nr) upd_same⟩
theorem ne_ent {K : Frag} {H : Hp} {l a b r c d : Addr} {n : Option Int} {Q : VK} (hl : H l = some (.lst [.ref a, .ref b])) (ha : H a = some (.lst (entV n))) (hb : H b = some (.lst (entV n))) (hr : H r = some (.lst [.ref c, .ref d])) (hc : H c = some (.lst (entV n))) (hd : H d = some (.lst (entV n))) (q : Q (.bl false) H) : rNeD K (.ref l) (.ref r) H Q :=
  neD_same (.list [entD n, entD n]) (dp_two hl (dp_ent ha) (dp_ent hb)) (dp_two hr (dp_ent hc) (dp_ent hd)) (sh_ent n) q
theorem ne_num {K : Frag} {H : Hp} {l a b r c d : Addr} {z : Str} {Q : VK} (hz : PyData.strOk z = true) (hl : H l = some (.lst [.ref a, .ref b])) (ha : H a = some (.lst [.str "number", .str z])) (hb : H b = some (.lst [.str "number", .str z])) (hr : H r = some (.lst [.ref c, .ref d])) (hc : H c = some (.lst [.str "number", .str z])) (hd : H d = some (.lst [.str "number", .str z])) (q : Q (.bl false) H) : rNeD K (.ref l) (.ref r) H Q :=
  neD_same (.list [numD z, numD z]) (dp_two hl (dp_num ha) (dp_num hb)) (dp_two hr (dp_num hc) (dp_num hd)) (sh_num hz) q
theorem eqv_no (n : Option Int) (z : Str) : PyData.eqv (.list [entD n, entD n]) (.list [numD z, numD z]) = false := by
  have h : ((Str.ofString "entries") == (Str.ofString "number")) = false := by decide +kernel
  simp only [entD, numD, PyData.eqv, PyData.eqvAll]
  simp [h]
theorem eq_no {K : Frag} {H : Hp} {l a b r c d : Addr} {n : Option Int} {z : Str} {Q : VK} (hz : PyData.strOk z = true) (hl : H l = some (.lst [.ref a, .ref b])) (ha : H a = some (.lst (entV n))) (hb : H b = some (.lst (entV n))) (hr : H r = some (.lst [.ref c, .ref d])) (hc : H c = some (.lst [.str "number", .str z])) (hd : H d = some (.lst [.str "number", .str z])) (q : Q (.bl false) H) : rEqD K (.ref l) (.ref r) H Q := by
  refine ⟨_, _, dp_two hl (dp_ent ha) (dp_ent hb), dp_two hr (dp_num hc) (dp_num hd), sh_ent n, sh_num hz, ?_⟩
  rw [eqv_no]
  exact q
theorem twice {e : En} : ∃ i : Nat, runE 0 ⟨0, fun _ => none⟩ 0 [some e, some e] = .error i := by
  rw [runE_cons]
  cases h : stepE 0 ⟨0, fun _ => none⟩ (some e) with
  | none => exact ⟨0, rfl⟩
  | some s1 =>
    dsimp only
    rw [runE_cons]
    have h2 : stepE 0 s1 (some e) = none := by
      cases e with
      | own m n d =>
        obtain ⟨ar, f, rws, chs⟩ := d
        rw [inv_own h]
        unfold stepE
        dsimp only
        split
        · rfl
        · rw [setS_same]
      | drop m n =>
        obtain ⟨⟨h0, e0⟩, _⟩ := inv_drop h
        cases e0
      | chg m n z o w =>
        obtain ⟨h0, e0, _⟩ := inv_chg h
        cases e0
    rw [h2]
    exact ⟨1, rfl⟩
theorem at_last {xs : List V} {x : V} (h : xs.getLast? = some x) : atI xs (-1) = some x := by
  have hl : xs ≠ [] := by
    intro e
    rw [e] at h
    cases h
  have hp : 0 < xs.length := List.length_pos_iff.mpr hl
  unfold atI
  rw [List.getLast?_eq_getElem?] at h
  have e : ixN xs.length (-1) = some (xs.length - 1) := by
    unfold ixN
    simp
    omega
  first | (rw [e]; exact h) | (simp only [e]; exact h)

def spLaw (K : Frag) : Sp := fun vs H Q _ => ∃ (a : Addr) (ns : List Int), vs = [.ref a] ∧ SqL K H a (ns.map V.int) ∧ ns.length ≤ 63 ∧ (∀ z ∈ ns, Builtin.Int.intBits z ≤ 1048576) ∧ (∀ p ∈ tf.map (cTA K), H p.2 = some (.tbl #[])) ∧ ∀ H', Q (.bl true) H'
abbrev sp_law := spLaw
theorem sc_law : FnScope ["_law_script", "_law_arc", "_law_k", "_law_pool", "_law_entries_here", "_law_odd"] ["_law_script"] (defScope s_law) := ⟨rfl, rfl, rfl, by decide +kernel, rfl, by decide +kernel, by decide +kernel⟩
theorem ok_law {P : Program} {w : World} {K : Frag} {mg : Str → Option Value} (T : Txt K mg) : LawOkT P w K mg (tf.map (cTA K)) 12 (glA "law" K) (sp_law K) := by
  refine okLawT (N := ["_law_script", "_law_arc", "_law_k", "_law_pool", "_law_entries_here", "_law_odd"]) (k := 11) (d := g_law) T.d_law rfl sc_law (fun _ _ _ _ _ _ us hl => match us, hl with | [_], _ => rfl) (fun base tb A outer s H vs Q E hr h => ?_)
  · have hu := hr.hu
    obtain ⟨a, ns, rfl, hS, hlen, hbits, htab, q⟩ := h
    refine ⟨_, PSs.nox ((pss_cons (ps_set (i := 1) sc_law.nd rfl (Or.inl rfl) (pe_mkF T.k_Arc (ok_Arc_init (K := K) T) hr T.m_Arc passL (pa_cons (pe_tup (pa_cons pe_int (pa_cons pe_str pa_nil))) (pa_cons (pe_tup (pa_cons pe_int (pa_cons pe_str pa_nil))) pa_nil))))
      (pss_cons (ps_for PassesOwn.never rfl (pi_range1 (by rfl) T.b_range (pa_cons (pe_callB (call_max2 rfl) (by rfl) T.b_max (by decide +kernel) (pa_cons pe_int (pa_cons (pe_callB (call_min2 rfl) (by rfl) T.b_min (by decide +kernel) (pa_cons (pe_callB call_len_seq (by rfl) T.b_len (by decide +kernel) (pa_cons (pv 0) pa_nil)) (pa_cons pe_int pa_nil))) pa_nil))) pa_nil)) (pg_name (i := 2) sc_law.nd rfl (Or.inl rfl))
        (pss_cons (ps_set (i := 3) sc_law.nd rfl (Or.inl rfl) (pe_cF (ok__law_hand (K := K) T) hr T.m__law_hand passL (pa_cons (pv 0) (pa_cons (pv 2) pa_nil))))
        (pss_cons (ps_set (i := 4) sc_law.nd rfl (Or.inl rfl) (pe_cF (ok__law_entries (K := K) T) hr T.m__law_entries passL (pa_cons (pv 3) (pa_cons (pv 1) pa_nil))))
        (pss_cons (ps_for PassesOwn.never rfl (pi_list (pe_op op_cat (pe_cF (ok__law_forms (K := K) T) hr T.m__law_forms passL (pa_cons (pv 1) pa_nil)) (pe_cF (ok__law_follows (K := K) T) hr T.m__law_follows passL (pa_cons (pv 4) pa_nil)))) (pg_name (i := 5) sc_law.nd rfl (Or.inl rfl))
          (pss_one (ps_if (pt_cmpR (op_neD (hu64 hr)) (pe_cF (ok__law_told (K := K) T) hr T.m__law_told passL (pa_cons (pe_op op_cat (pv 4) (pe_lst (pa_cons (pv 5) (pa_cons pe_non pa_nil)))) (pa_cons pe_non pa_nil))) (pe_op op_rep (pe_lst (pa_cons (pe_lst (pa_cons pe_str (pa_cons pe_bl (pa_cons (pe_callB call_len_seq (by rfl) T.b_len (by decide +kernel) (pa_cons (pv 4) pa_nil)) pa_nil)))) pa_nil)) pe_int) (nomark _))
            (pss_one (ps_ret pe_bl))
            pss_nil)))
        (pss_cons (ps_set (i := 5) sc_law.nd rfl (Or.inl rfl) (pe_ix ix_list (pe_lst (pa_cons pe_non (pa_cons (pe_tup pa_nil) (pa_cons (pe_callTy call_tupleFz (by rfl) T.b_tuple (by decide +kernel) (pa_cons (pv 4) pa_nil)) (pa_cons pe_dnewK (pa_cons pe_str (pa_cons pe_int pa_nil))))))) (pe_cF (ok__law_draw (K := K) T) hr T.m__law_draw passL (pa_cons (pv 3) (pa_cons pe_int pa_nil))) (fun _ _ => rfl)))
        (pss_cons (ps_if (pt_cmpR (op_neD (hu64 hr)) (pe_cF (ok__law_told (K := K) T) hr T.m__law_told passL (pa_cons (pv 5) (pa_cons pe_non pa_nil))) (pe_op op_rep (pe_lst (pa_cons (pe_lst (pa_cons pe_str (pa_cons pe_bl (pa_cons pe_non pa_nil)))) pa_nil)) pe_int) (nomark _))
          (pss_one (ps_ret pe_bl))
          pss_nil)
        (pss_cons (ps_set (i := 5) sc_law.nd rfl (Or.inl rfl) (pe_ix ix_list (pe_lst (pa_cons (pe_un un_neg pe_int) (pa_cons pe_int (pa_cons pe_non (pa_cons pe_bl (pa_cons pe_str pa_nil)))))) (pe_cF (ok__law_draw (K := K) T) hr T.m__law_draw passL (pa_cons (pv 3) (pa_cons pe_int pa_nil))) (fun _ _ => rfl)))
        (pss_cons (ps_if (pt_cmpR (op_neD (hu64 hr)) (pe_cF (ok__law_told (K := K) T) hr T.m__law_told passL (pa_cons (pv 4) (pa_cons (pv 5) pa_nil))) (pe_op op_rep (pe_lst (pa_cons (pe_lst (pa_cons pe_str (pa_cons (pe_callB (call_reprV hr.g (hu99 hr)) (by rfl) T.b_repr (by decide +kernel) (pa_cons (pv 5) pa_nil)) pa_nil))) pa_nil)) pe_int) (nomark _))
          (pss_one (ps_ret pe_bl))
          pss_nil)
        (pss_one (ps_if (PW.pt (pw_and (pt_cmpR (op_neNil (hu64 hr)) (pv 4) (pe_lst pa_nil) (nomark _)) (pw_and1 (pt_cmpR (op_eqD (hu64 hr)) (pe_cF (ok__law_told (K := K) T) hr T.m__law_told passL (pa_cons (pe_op op_rep (pe_lst (pa_cons (pe_ix ix_list (pv 4) (pe_un un_neg pe_int) (fun _ _ => rfl)) pa_nil)) pe_int) (pa_cons pe_int pa_nil))) (pe_op op_rep (pe_lst (pa_cons (pe_lst (pa_cons pe_str (pa_cons pe_str pa_nil))) pa_nil)) pe_int) (nomark _)))))
          (pss_one (ps_ret pe_bl))
          pss_nil))))))))))
      (pss_one (ps_ret pe_bl))))), ?_⟩
    have t0 := tabs0 htab
    -- the arc
    refine seq_gen (fun σ' G => ∃ ar dx fs, σ' = [some (.ref a), some (.ref ar), none, none, none, none] ∧ Same H G ∧ G ar = some (.ins (ga K "Arc") dx fs)) (fun N hN => ?_) ?_
    · walk_at "nm"
      refine newArcT (p := (0, Str.ofString "")) (r := (9, Str.ofString "b")) (by decide +kernel) (by decide +kernel) (by decide +kernel) (by decide +kernel) (by decide +kernel) (fun Q' q' => ?_) fun G x dx p1 p2 s1 nx e1 e2 e3 => hN _ _ ⟨x, dx, _, rfl, s1, e3⟩
      walk_at "nm"
      refine ⟨by rw [sizeLine_eq]; first | decide | simp, fun p1 n1 => ?_⟩
      generalize hg : upd _ p1 _ = G1
      have s1 := sameOf n1 hg
      have e1 := atOf hg
      clear hg
      refine ⟨by rw [sizeLine_eq]; first | decide | simp, fun p2 n2 => ?_⟩
      generalize hg : upd _ p2 _ = G2
      have s2 := sameOf n2 hg
      have e2 := atOf hg
      clear hg
      exact q' _ _ _ (s1.trans s2) (s2 _ _ e1) e2
    rintro σ' G0 ⟨ar, dx, fs, rfl, s0, har⟩
    have tb0 := t0.ext s0
    replace hS := seqN hS (LamX.ExtN.of s0)
    clear s0 t0 htab
    refine seq_gen (fun _ _ => True) (fun N hN => ?_) (fun σ' H' _ => q H')
    walk_at "nm"
    refine ⟨_, rfl, a, rfl, _, .inl hS, _, _, rfl, _, _, rfl, _, rfl, ?_, ?_, for_range (fun i σ G => (∃ v2 v3 v4 v5, σ = [some (.ref a), some (.ref ar), v2, v3, v4, v5]) ∧ LamX.ExtN G0 G ∧ LamX.Tabs (TL K) G) ⟨⟨_, _, _, _, rfl⟩, .refl _, tb0⟩ ?_ ?_⟩
    · split <;> split <;> omega
    · split <;> split <;> omega
    · rintro i σ G1 hi ⟨⟨v2, v3, v4, v5, rfl⟩, e1, t1⟩
      have hi12 : i < 12 := by
        rw [List.length_map] at hi
        split at hi <;> split at hi <;> omega
      dsimp only [gName]
      simp only [List.set_cons_succ, List.set_cons_zero]
      generalize hk : some (V.int (0 + (i : Int))) = vk
      -- the pool
      refine seq_gen (fun σ' G => ∃ pl, σ' = [some (.ref a), some (.ref ar), vk, some (.ref pl), v4, v5] ∧ Bs (TL K) G0 pl G) (fun N2 hN2 => ?_) ?_
      · subst hk
        walk_at "nm"
        exact ⟨a, ns, _, rfl, seqN hS e1, by omega, ⟨by omega, by omega⟩, fun G pl s npl hp => hN2 _ _ ⟨pl, rfl, e1.trans (.of s), hp, t1.ext s, freeN e1 npl⟩⟩
      clear e1 t1
      rintro σ' G2 ⟨pl, rfl, bs⟩
      -- the entries
      refine seq_gen (fun σ' G => ∃ F us es s, σ' = [some (.ref a), some (.ref ar), vk, some (.ref pl), some (.ref F), v5] ∧ Bs (TL K) G0 pl G ∧ JrAt K G F us es s ∧ us.length ≤ 11 ∧ s.mom ≤ 22 ∧ F ≠ pl) (fun N2 hN2 => ?_) ?_
      · walk_at "nm"
        exact ⟨pl, ar, dx, fs, rfl, bs.pool, bs.ext _ _ har (fun _ z => by cases z), fun G F us es s x nF hp jr l m => hN2 _ _ ⟨F, us, es, s, rfl, bs.ex x hp, jr, l, m, bs.ne nF⟩⟩
      clear bs
      rintro σ' G3 ⟨F, us, es, s, rfl, bs, jr, few, mom, nF⟩
      have lu : us.length = es.length := by
        have := jr.en.length
        simpa using this
      -- what cannot follow
      refine seq_gen (fun σ' G => ∃ w5, σ' = [some (.ref a), some (.ref ar), vk, some (.ref pl), some (.ref F), w5] ∧ Same G3 G) (fun N2 hN2 => ?_) ?_
      · refine ⟨_, rfl, ar, dx, fs, rfl, bs.ext _ _ har (fun _ z => by cases z), fun G4 l1 us1 cs1 s4 e4 p4 r4 c4 => ?_⟩
        have jr4 := jr.same s4
        refine ⟨_, rfl, F, us, es, s, rfl, jr4, few, mom, fun G5 l2 us2 cs2 s5 e5 p5 r5 c5 => ?_⟩
        refine ⟨l1, l2, us1, us2, rfl, rfl, s5 _ _ e4, e5, by rw [sizeLine_eq]; omega, fun lz nz => ?_⟩
        generalize hg : upd G5 lz _ = G6
        have s6 := sameOf nz hg
        have e6 := atOf hg
        clear hg
        have k6 := (s4.trans s5).trans s6
        have p6 : Paired (EnV K G6) (us1 ++ us2) (cs1 ++ cs2) := pr_app (paired_imp p4 fun _ _ _ h => h.same (s5.trans s6)) (paired_imp p5 fun _ _ _ h => h.same s6)
        have r6 : ∀ c ∈ cs1 ++ cs2, stepE 0 s c = none := fun c hc => (List.mem_append.mp hc).elim (fun h => r4 c h s jr.ok) (r5 c)
        clear p4 p5 r4 r5 e4 e5 jr4
        refine ⟨lz, rfl, ⟨_, SqL.of e6⟩, for_list (K := K) (a := lz) (xs := us1 ++ us2) (fun j σ' G => (∃ w5, σ' = [some (.ref a), some (.ref ar), vk, some (.ref pl), some (.ref F), w5]) ∧ Same G6 G) ⟨⟨_, rfl⟩, Same.refl _⟩ (fun j σ' G _ p => SqL.of (p.2 _ _ e6)) ?_ ?_⟩
        · rintro j v σ' G7 hv ⟨⟨w5, rfl⟩, s7⟩
          obtain ⟨c, hc, hev⟩ := LiI.paired_get p6 hv
          have rc := r6 c (List.mem_of_getElem? hc)
          have jr7 := jr.same (k6.trans s7)
          dsimp only [gName]
          simp only [List.set_cons_succ, List.set_cons_zero]
          walk_at "nm"
          refine ⟨by rw [sizeLine_eq]; first | decide | simp, fun x1 nx1 => ?_⟩
          generalize hg : upd _ x1 _ = G8
          have s8 := sameOf nx1 hg
          have ex1 := atOf hg
          clear hg
          refine ⟨F, x1, us, _, rfl, rfl, s8 _ _ jr7.lst, ex1, by rw [sizeLine_eq]; simp; omega, fun x2 nx2 => ?_⟩
          generalize hg : upd G8 x2 _ = G9
          have s9 := sameOf nx2 hg
          have ex2 := atOf hg
          clear hg
          have k9 := s8.trans s9
          have jr9 := jr7.same k9
          refine ⟨.ref x2, .non, .non, rfl, fun _ _ => .non, .inr ⟨x2, _, es.map some ++ [c, none], rfl, ex2, pr_app jr9.en (.cons (hev.same (s7.trans k9)) (.cons (.no .non rfl) .nil)), by rw [List.length_append]; simp; omega, .inl ⟨us.length, ?_, fun GA l b1 b2 sA el eb1 eb2 => ?_⟩⟩⟩
          · rw [runE_app jr.run, runE_cons, rc, List.length_map, lu]
            simp
          refine ⟨us, .inl (SqL.of ((jr9.same sA).lst)), ?_⟩
          refine ⟨by rw [sizeLine_eq]; first | decide | simp, fun y1 ny1 => ?_⟩
          generalize hg : upd _ y1 _ = GB
          have sB := sameOf ny1 hg
          have ey1 := atOf hg
          clear hg
          refine ⟨by rw [sizeLine_eq]; first | decide | simp, fun y2 ny2 => ?_⟩
          generalize hg : upd _ y2 _ = GC
          have sC := sameOf ny2 hg
          have ey2 := atOf hg
          clear hg
          refine two_lst ey2 fun GD r sD er => ?_
          have kD := (sB.trans sC).trans sD
          refine ne_ent (n := some (us.length : Int)) (kD _ _ el) (kD _ _ eb1) (kD _ _ eb2) er ((sC.trans sD) _ _ ey1) ((sC.trans sD) _ _ ey1) ⟨_, rfl, ?_⟩
          exact iteF ⟨⟨_, rfl⟩, ((s7.trans k9).trans sA).trans kD⟩
        · rintro σ' G7 ⟨⟨w5, rfl⟩, s7⟩
          exact hN2 _ _ ⟨_, rfl, k6.trans s7⟩
      rintro σ' G4 ⟨w5, rfl, s4⟩
      replace bs := bs.same s4
      replace jr := jr.same s4
      clear s4
      -- no list
      refine seq_gen (fun σ' G => ∃ x, σ' = [some (.ref a), some (.ref ar), vk, some (.ref pl), some (.ref F), some x] ∧ Bs (TL K) G0 pl G ∧ JrAt K G F us es s ∧ ∀ G', Same G G' → NoL K G' x) (fun N2 hN2 => ?_) ?_
      · walk_at "nm"
        refine ⟨by rw [sizeLine_eq]; first | decide | simp, fun t nt => ?_⟩
        generalize hg : upd _ t _ = G5
        have s5 := sameOf nt hg
        have et := atOf hg
        clear hg
        have jr5 := jr.same s5
        refine ⟨_, SqL.of jr5.lst, fun G6 z s6 nz fz => ?_⟩
        intro d nd
        generalize hg : upd G6 d _ = G7
        have s7 := sameOf nd hg
        have ed := atOf hg
        clear hg
        refine ⟨by rw [sizeLine_eq]; first | decide | simp, fun L nL => ?_⟩
        generalize hg : upd _ L _ = G8
        have s8 := sameOf nL hg
        have eL := atOf hg
        clear hg
        have k8 := ((s5.trans s6).trans s7).trans s8
        have bs8 := bs.same k8
        refine ⟨pl, 6, rfl, bs8.pool, by decide, by decide, fun v G9 v0 v1 hp9 x9 => ?_⟩
        have eL9 := x9 _ _ ((bs.same ((s5.trans s6).trans s7)).ne nL) eL
        have bs9 := bs8.ex x9 hp9
        have jr9 := (jr.same k8).kp (Kp.exP x9 bs8.pool) (x9 _ _ nF (jr.same k8).lst)
        have at9 : ∀ b o, G8 b = some o → b ≠ pl → G9 b = some o := fun b o h n => x9 b o n h
        have hz9 : FzT G9 z us := ((fz.same s7).same s8).kp (Kp.exP x9 bs8.pool)
        have et9 : G9 t = some (.tup []) := x9 _ _ (bs.ne nt) ((s6.trans (s7.trans s8)) _ _ et)
        have ed9 : G9 d = some (.dK []) := x9 _ _ ((bs.same (s5.trans s6)).ne nd) (s8 _ _ ed)
        have fin : ∀ x, atI [V.non, V.ref t, V.ref z, V.ref d, V.str (Str.ofString "own"), V.int 5] v = some x → (∀ G', Same G9 G' → NoL K G' x) → rIxL K (V.ref L) (V.int v) G9 fun x H1 => N2 [some (V.ref a), some (V.ref ar), vk, some (V.ref pl), some (V.ref F), some x] H1 := fun x e h => ixL (SqL.of eL9) e (hN2 _ _ ⟨x, rfl, bs9, jr9, h⟩)
        rcases (show v = 0 ∨ v = 1 ∨ v = 2 ∨ v = 3 ∨ v = 4 ∨ v = 5 by omega) with rfl | rfl | rfl | rfl | rfl | rfl
        · exact fin _ rfl fun G' _ => .of .non rfl
        · exact fin _ rfl fun G' k => .of (.tup (k _ _ et9)) rfl
        · exact fin _ rfl fun G' k => .fz (hz9.same k)
        · exact fin _ rfl fun G' k => .of (.dct (k _ _ ed9)) rfl
        · exact fin _ rfl fun G' _ => .of (.str _) rfl
        · exact fin _ rfl fun G' _ => .of (.int _) rfl
      clear bs jr
      rintro σ' G5 ⟨x, rfl, bs, jr, hx⟩
      refine seq_gen (fun σ' G => σ' = [some (.ref a), some (.ref ar), vk, some (.ref pl), some (.ref F), some x] ∧ Same G5 G) (fun N2 hN2 => ?_) ?_
      · walk_at "nm"
        refine ⟨x, .non, .non, rfl, fun _ _ => .non, .inl ⟨hx, fun G6 l b1 b2 s6 el eb1 eb2 => ?_⟩⟩
        refine ⟨by rw [sizeLine_eq]; first | decide | simp, fun y1 ny1 => ?_⟩
        generalize hg : upd _ y1 _ = GB
        have sB := sameOf ny1 hg
        have ey1 := atOf hg
        clear hg
        refine ⟨by rw [sizeLine_eq]; first | decide | simp, fun y2 ny2 => ?_⟩
        generalize hg : upd _ y2 _ = GC
        have sC := sameOf ny2 hg
        have ey2 := atOf hg
        clear hg
        refine two_lst ey2 fun GD r sD er => ?_
        have kD := (sB.trans sC).trans sD
        refine ne_ent (n := none) (kD _ _ el) (kD _ _ eb1) (kD _ _ eb2) er ((sC.trans sD) _ _ ey1) ((sC.trans sD) _ _ ey1) ⟨_, rfl, ?_⟩
        exact iteF (hN2 _ _ ⟨rfl, s6.trans kD⟩)
      rintro σ' G6 ⟨rfl, s6⟩
      replace bs := bs.same s6
      replace jr := jr.same s6
      clear s6 hx
      -- a bound that is none
      refine seq_gen (fun σ' G => ∃ od k z, σ' = [some (.ref a), some (.ref ar), vk, some (.ref pl), some (.ref F), some od] ∧ Bs (TL K) G0 pl G ∧ JrAt K G F us es s ∧ (∀ H', Is K H' od k ∧ Rp K H' od z) ∧ PyData.strOk z = true ∧ k.within 0 1000 = false) (fun N2 hN2 => ?_) ?_
      · walk_at "nm"
        dsimp only [rU]
        refine ⟨_, rfl, ?_⟩
        refine ⟨by rw [sizeLine_eq]; first | decide | simp, fun L nL => ?_⟩
        generalize hg : upd _ L _ = G8
        have s8 := sameOf nL hg
        have eL := atOf hg
        clear hg
        have bs8 := bs.same s8
        refine ⟨pl, 5, rfl, bs8.pool, by decide, by decide, fun v G9 v0 v1 hp9 x9 => ?_⟩
        have eL9 := x9 _ _ (bs.ne nL) eL
        have bs9 := bs8.ex x9 hp9
        have jr9 := (jr.same s8).kp (Kp.exP x9 bs8.pool) (x9 _ _ nF (jr.same s8).lst)
        have fin : ∀ od k z, atI [V.int (-1), V.int 1001, V.non, V.bl true, V.str (Str.ofString "5")] v = some od → (∀ H', Is K H' od k ∧ Rp K H' od z) → PyData.strOk z = true → k.within 0 1000 = false → rIxL K (V.ref L) (V.int v) G9 fun x H1 => N2 [some (V.ref a), some (V.ref ar), vk, some (V.ref pl), some (V.ref F), some x] H1 := fun od k z e h1 h2 h3 => ixL (SqL.of eL9) e (hN2 _ _ ⟨od, k, z, rfl, bs9, jr9, h1, h2, h3⟩)
        rcases (show v = 0 ∨ v = 1 ∨ v = 2 ∨ v = 3 ∨ v = 4 by omega) with rfl | rfl | rfl | rfl | rfl
        · exact fin _ _ _ rfl (fun H' => ⟨.int (-1), plain_rp (d := .int (-1)) (by decide +kernel) (.int _)⟩) (by decide +kernel) (by decide +kernel)
        · exact fin _ _ _ rfl (fun H' => ⟨.int 1001, plain_rp (d := .int 1001) (by decide +kernel) (.int _)⟩) (by decide +kernel) (by decide +kernel)
        · exact fin _ _ _ rfl (fun H' => ⟨.non, plain_rp (d := .none) (by decide +kernel) .non⟩) (by decide +kernel) (by decide +kernel)
        · exact fin _ _ _ rfl (fun H' => ⟨.bl true, plain_rp (d := .bool true) (by decide +kernel) (.bl _)⟩) (by decide +kernel) (by decide +kernel)
        · exact fin _ _ _ rfl (fun H' => ⟨.str "5", plain_rp (d := .str "5") (by decide +kernel) (.str _)⟩) (by decide +kernel) (by decide +kernel)
      clear bs jr
      rintro σ' G7 ⟨od, k, z, rfl, bs, jr, hod, hz, hk⟩
      refine seq_gen (fun σ' G => σ' = [some (.ref a), some (.ref ar), vk, some (.ref pl), some (.ref F), some od] ∧ Same G7 G) (fun N2 hN2 => ?_) ?_
      · walk_at "nm"
        refine ⟨.ref F, od, k, rfl, fun G' _ => (hod G').1, .inr ⟨F, us, es.map some, rfl, jr.lst, jr.en, by omega, .inr ⟨z, ⟨s, jr.run⟩, hk, fun G' _ => (hod G').2, fun G8 l b1 b2 s8 el eb1 eb2 => ?_⟩⟩⟩
        refine ⟨od, z, rfl, (hod _).2, ?_⟩
        refine ⟨by rw [sizeLine_eq]; first | decide | simp, fun y1 ny1 => ?_⟩
        generalize hg : upd _ y1 _ = GB
        have sB := sameOf ny1 hg
        have ey1 := atOf hg
        clear hg
        refine ⟨by rw [sizeLine_eq]; first | decide | simp, fun y2 ny2 => ?_⟩
        generalize hg : upd _ y2 _ = GC
        have sC := sameOf ny2 hg
        have ey2 := atOf hg
        clear hg
        refine two_lst ey2 fun GD r sD er => ?_
        have kD := (sB.trans sC).trans sD
        refine ne_num hz (kD _ _ el) (kD _ _ eb1) (kD _ _ eb2) er ((sC.trans sD) _ _ ey1) ((sC.trans sD) _ _ ey1) ⟨_, rfl, ?_⟩
        exact iteF (hN2 _ _ ⟨rfl, s8.trans kD⟩)
      rintro σ' G8 ⟨rfl, s8⟩
      replace bs := bs.same s8
      replace jr := jr.same s8
      clear s8
      have fin : ∀ G, Same G8 G → (∃ v2 v3 v4 v5, [some (V.ref a), some (V.ref ar), vk, some (V.ref pl), some (V.ref F), some od] = [some (V.ref a), some (V.ref ar), v2, v3, v4, v5]) ∧ LamX.ExtN G0 G ∧ LamX.Tabs (TL K) G := fun G k => ⟨⟨_, _, _, _, rfl⟩, (bs.same k).ext, (bs.same k).tabs⟩
      walk_at "nm"
      refine ⟨by rw [sizeLine_eq]; first | decide | simp, fun e0 ne0 => ?_⟩
      generalize hg : upd _ e0 _ = G9
      have s9 := sameOf ne0 hg
      have ee0 := atOf hg
      clear hg
      refine ⟨F, e0, us, rfl, rfl, (jr.same s9).lst, ee0, _, rfl, ?_⟩
      have fin2 : ∀ G, Same G9 G → (∃ x, some od = x) ∧ LamX.ExtN G0 G ∧ LamX.Tabs (TL K) G := fun G k => ⟨⟨_, rfl⟩, (bs.same (s9.trans k)).ext, (bs.same (s9.trans k)).tabs⟩
      by_cases hu0 : us = []
      · rw [if_neg (by rw [hu0]; decide)]
        exact fin2 _ (Same.refl _)
      · rw [if_pos (by cases us with | nil => exact absurd rfl hu0 | cons _ _ => rfl)]
        have lp : 0 < us.length := List.length_pos_iff.mpr hu0
        obtain ⟨v, hv⟩ : ∃ v, us[us.length - 1]? = some v := ⟨_, List.getElem?_eq_getElem (by omega)⟩
        obtain ⟨c, hc, hev⟩ := LiI.paired_get (jr.same s9).en hv
        obtain ⟨e, _, rfl⟩ := List.mem_map.mp (List.mem_of_getElem? hc)
        refine ⟨_, rfl, ?_⟩
        refine ixL (SqL.of (jr.same s9).lst) (at_last (by rw [List.getLast?_eq_getElem?]; exact hv)) ?_
        refine ⟨by rw [sizeLine_eq]; first | decide | simp, fun y1 ny1 => ?_⟩
        generalize hg : upd _ y1 _ = GB
        have sB := sameOf ny1 hg
        have ey1 := atOf hg
        clear hg
        refine two_lst ey1 fun GC r sC er => ?_
        obtain ⟨i', hi'⟩ := twice (e := e)
        have kC := sB.trans sC
        have hev2 := hev.same kC
        refine ⟨.ref r, .int 5, .int 5, rfl, fun _ _ => .int 5, .inr ⟨r, _, _, rfl, er, .cons hev2 (.cons hev2 .nil), by simp, .inl ⟨i', hi', fun GD l b1 b2 sD el eb1 eb2 => ?_⟩⟩⟩
        refine ⟨by rw [sizeLine_eq]; first | decide | simp, fun y3 ny3 => ?_⟩
        generalize hg : upd _ y3 _ = GE
        have sE := sameOf ny3 hg
        have ey3 := atOf hg
        clear hg
        refine ⟨by rw [sizeLine_eq]; first | decide | simp, fun y4 ny4 => ?_⟩
        generalize hg : upd _ y4 _ = GF
        have sF := sameOf ny4 hg
        have ey4 := atOf hg
        clear hg
        refine two_lst ey4 fun GH r2 sH er2 => ?_
        have kH := (sE.trans sF).trans sH
        refine eq_no (n := some (i' : Int)) (z := Str.ofString "5") (by decide +kernel) (kH _ _ el) (kH _ _ eb1) (kH _ _ eb2) er2 ((sF.trans sH) _ _ ey3) ((sF.trans sH) _ _ ey3) ⟨_, rfl, ?_⟩
        exact iteF (fin2 _ ((kC.trans sD).trans kH))
    · exact fun σ G _ => hN σ G trivial

theorem law_end {P : Program} {w : World} {K : Frag} {mg : Str → Option Value} (T : Txt K mg) :
    ∃ sp : Sp, (∀ (H : Hp) (a : Addr) (ns : List Int), ns.length ≤ 63 → (∀ z ∈ ns, Builtin.Int.intBits z ≤ 1048576) → (∀ p ∈ tf.map (cTA K), H p.2 = some (.tbl #[])) → SqL K H a (ns.map V.int) → sp [.ref a] H (fun v _ => v = .bl true) fun _ _ _ => False) ∧ LawOkT P w K mg (tf.map (cTA K)) 12 (ga K "law") sp :=
  ⟨sp_law K, fun H a ns hl hb ht hS => ⟨a, ns, rfl, hS, hl, hb, ht, fun _ => rfl⟩, ok_law T⟩

set_option maxHeartbeats 0
def fa0 : List Fa := [.glo "_wall", .glo "is_integer", .glo "in_range", .glo "check_number", .glo "check_least", .glo "is_key", .glo "check_key", .glo "is_point", .glo "check_point", .glo "check_value", .glo "log_with", .glo "is_amount", .glo "are_rows", .glo "is_change", .glo "are_changes", .glo "is_own", .glo "is_entry", .glo "recovered", .glo "is_like", .glo "is_recovered", .glo "_law_hand", .glo "_law_draw", .glo "_law_entries", .glo "_law_forms", .glo "_law_follows", .glo "_law_told", .glo "law", .glo "InvalidNumber", .glo "InvalidKey", .glo "InvalidPoint", .glo "InvalidArc", .glo "InvalidEntries", .glo "Arc", .cls "Arc", .mkr "Arc", .noat "Arc" "own_start", .noat "Arc" "own_end", .meth "Arc" "__contains__", .meth "Arc" "__and__", .meth "Arc" "split", .meth "Arc" "__eq__", .meth "Arc" "__repr__", .glo "ChangeLog", .cls "ChangeLog", .mkr "ChangeLog", .noat "ChangeLog" "own_bound", .noat "ChangeLog" "own_floor", .noat "ChangeLog" "own_changes", .meth "ChangeLog" "last", .meth "ChangeLog" "add", .meth "ChangeLog" "trim", .meth "ChangeLog" "changes", .meth "ChangeLog" "since", .meth "ChangeLog" "__len__", .meth "ChangeLog" "__eq__", .glo "Recovery", .cls "Recovery", .mkr "Recovery", .noat "Recovery" "own_bound", .noat "Recovery" "own_moment", .noat "Recovery" "own_shards", .meth "Recovery" "take", .meth "Recovery" "take_own", .meth "Recovery" "take_change", .meth "Recovery" "shards", .int "MAX_NUMBER" 4294967296, .int "MAX_LENGTH" 20, .str "BEHIND" "!", .str "CHARACTERS" "abcdefghijklmnopqrstuvwxyz0123456789", .int "MAX_BOUND" 1000, .free "NotImplemented", .free "ValueError", .free "all", .free "bool", .free "dict", .free "enumerate", .free "int", .free "isinstance", .free "len", .free "list", .free "max", .free "min", .free "property", .free "range", .free "repr", .free "sorted", .free "str", .free "tuple", .free "zip"]
def fa : List Fa := fa0
def fn0 : List DefG := [g__wall, g_is_integer, g_in_range, g_check_number, g_check_least, g_is_key, g_check_key, g_is_point, g_check_point, g_check_value, g_log_with, g_is_amount, g_are_rows, g_is_change, g_are_changes, g_is_own, g_is_entry, g_recovered, g_is_like, g_is_recovered, g__law_hand, g__law_draw, g__law_entries, g__law_forms, g__law_follows, g__law_told, g_law, g_InvalidNumber_init, g_InvalidKey_init, g_InvalidPoint_init, g_InvalidArc_init, g_InvalidEntries_init, g_Arc_init, g_Arc_start, g_Arc_end, g_Arc_contains, g_Arc_and, g_Arc_split, g_Arc_eq, g_Arc_repr, g_ChangeLog_init, g_ChangeLog_bound, g_ChangeLog_floor, g_ChangeLog_last, g_ChangeLog_add, g_ChangeLog_trim, g_ChangeLog_changes, g_ChangeLog_since, g_ChangeLog_len, g_ChangeLog_eq, g_Recovery_init, g_Recovery_take, g_Recovery_take_own, g_Recovery_take_change, g_Recovery_shards]
def fn : List DefG := fn0
def loose0 : List Str := ["_wall", "InvalidNumber", "InvalidKey", "InvalidPoint", "InvalidArc", "InvalidEntries", "MAX_NUMBER", "MAX_LENGTH", "BEHIND", "CHARACTERS", "is_integer", "in_range", "check_number", "check_least", "is_key", "check_key", "is_point", "check_point", "Arc", "MAX_BOUND", "check_value", "ChangeLog", "log_with", "is_amount", "are_rows", "is_change", "are_changes", "is_own", "is_entry", "Recovery"]
def loose1 : List Str := ["recovered", "is_like", "is_recovered", "_law_hand", "_law_draw", "_law_entries", "_law_forms", "_law_follows", "_law_told"]
def loose : List Str := (loose0 ++ loose1)
def ex0 (K : Frag) : Bool := excTB .ve "InvalidNumber" K && (excCB "InvalidNumber" K && (xfB K (ga K "InvalidNumber") && (eqO (PySem.W.findIn K (.ref (ga K "InvalidNumber")) "value") (some none) && (decide (PySem.W.kitOne K (.ref (ga K "InvalidNumber")) (.type "ValueError") = some true) && (decide (PySem.W.exmOne K (.ref (ga K "InvalidNumber")) (.ref (ga K "InvalidEntries")) = some false) && (decide (PySem.W.exmOne K (.ref (ga K "InvalidNumber")) (.ref (ga K "InvalidNumber")) = some true) && (excTB .ve "InvalidKey" K && (excCB "InvalidKey" K && (xfB K (ga K "InvalidKey") && (eqO (PySem.W.findIn K (.ref (ga K "InvalidKey")) "value") (some none) && (decide (PySem.W.kitOne K (.ref (ga K "InvalidKey")) (.type "ValueError") = some true) && (decide (PySem.W.exmOne K (.ref (ga K "InvalidKey")) (.ref (ga K "InvalidEntries")) = some false) && (decide (PySem.W.exmOne K (.ref (ga K "InvalidKey")) (.ref (ga K "InvalidNumber")) = some false) && (excTB .ve "InvalidPoint" K && (excCB "InvalidPoint" K && (xfB K (ga K "InvalidPoint") && (eqO (PySem.W.findIn K (.ref (ga K "InvalidPoint")) "value") (some none) && (decide (PySem.W.kitOne K (.ref (ga K "InvalidPoint")) (.type "ValueError") = some true) && (decide (PySem.W.exmOne K (.ref (ga K "InvalidPoint")) (.ref (ga K "InvalidEntries")) = some false) && (decide (PySem.W.exmOne K (.ref (ga K "InvalidPoint")) (.ref (ga K "InvalidNumber")) = some false) && (excTB .ve "InvalidArc" K && (excCB "InvalidArc" K && (xfB K (ga K "InvalidArc") && (eqO (PySem.W.findIn K (.ref (ga K "InvalidArc")) "first") (some none) && (eqO (PySem.W.findIn K (.ref (ga K "InvalidArc")) "second") (some none) && (decide (PySem.W.kitOne K (.ref (ga K "InvalidArc")) (.type "ValueError") = some true) && (decide (PySem.W.exmOne K (.ref (ga K "InvalidArc")) (.ref (ga K "InvalidEntries")) = some false) && (decide (PySem.W.exmOne K (.ref (ga K "InvalidArc")) (.ref (ga K "InvalidNumber")) = some false) && (excTB .ve "InvalidEntries" K && (excCB "InvalidEntries" K && (xfB K (ga K "InvalidEntries") && (eqO (PySem.W.findIn K (.ref (ga K "InvalidEntries")) "position") (some none) && (decide (PySem.W.kitOne K (.ref (ga K "InvalidEntries")) (.type "ValueError") = some true) && (decide (PySem.W.exmOne K (.ref (ga K "InvalidEntries")) (.ref (ga K "InvalidEntries")) = some true) && (decide (PySem.W.exmOne K (.ref (ga K "InvalidEntries")) (.ref (ga K "InvalidNumber")) = some false) && (propB "Arc" "start" K && (propB "Arc" "end" K && (ownCB "Arc" K && (ownKB "Arc" K && (firstB "Arc" K && (noNeB "Arc" K && (PySem.W.selfFirst K (ga K "Arc") && (propB "ChangeLog" "bound" K && (propB "ChangeLog" "floor" K && (ownCB "ChangeLog" K && (ownKB "ChangeLog" K && (firstB "ChangeLog" K && (noNeB "ChangeLog" K && (ownCB "Recovery" K && (ownKB "Recovery" K && (firstB "Recovery" K && (true))))))))))))))))))))))))))))))))))))))))))))))))))))
def ex : Frag → Bool := ex0
abbrev R : PySem.W.OpenRow := PySem.W.OpenLaw.row PySem.Challenge.rw_arccursors_k33_invalid_journals
abbrev hk : PySem.W.Hook := hookS fa ex fn tf
def ob (s : PySem.W.SharedT) : Ah.AlT := obsSF fa ex fn tf (HandSHeadRun.getT s)
theorem ob_eq (s : PySem.W.SharedT) : ob s = hk.obs s.abs := obsSF_ok s
theorem run0 (w : World) : HandSHeadRun.RunEq R (PySem.W.view R.prog [44]) (hookS [] (fun _ => true) [] tf) (fun s => obsSF [] (fun _ => true) [] tf (HandSHeadRun.getT s)) 20000 loose w := by
  intro os
  kernel_rfl
theorem lookF0 (w : World) : LookEq R (fun K => fa0.all fun f => f.ok K) 20000 w := by
  intro os
  kernel_rfl
theorem lookD0 (w : World) : LookEq R (fun K => fn0.all fun d => d.ok K) 20000 w := by
  intro os
  kernel_rfl
theorem lookV0 (w : World) : LookV R fn0 20000 w := by
  intro os
  kernel_rfl
theorem lookX0 (w : World) : LookEq R (ex0) 20000 w := by
  intro os
  kernel_rfl
theorem all_F (w : World) : LookEq R (fun K => fa.all fun x => x.ok K) 20000 w := by
  have h := lookF0 w
  have e : (fun K : Frag => fa.all fun x => x.ok K) = fun K => (fa0.all fun x => x.ok K) := by
    funext K
    show (fa0 : List _).all _ = _
    simp only [List.all_append]
  rw [e]
  exact h
theorem all_D (w : World) : LookEq R (fun K => fn.all fun x => x.ok K) 20000 w := by
  have h := lookD0 w
  have e : (fun K : Frag => fn.all fun x => x.ok K) = fun K => (fn0.all fun x => x.ok K) := by
    funext K
    show (fn0 : List _).all _ = _
    simp only [List.all_append]
  rw [e]
  exact h
theorem all_V (w : World) : LookV R fn 20000 w := lookV0 w
theorem all_X (w : World) : LookEq R ex 20000 w := lookX0 w
theorem run (w : World) : HandSHeadRun.RunEq R (PySem.W.view R.prog [44]) hk ob 20000 loose w := run_of (run0 w) ((all_F w).and ((all_X w).and (all_D w))) (all_V w)
theorem txt {K : Frag} {h : Heap} {mg : Str → Option Value} (X : K.In h) (G : h.Ns mainGlobals mg) (c : SaysG fa ex fn K) (t : TabF tf h K) : Txt K mg := by
  have w0 := c.more
  have m0 : ex0 K = true := w0
  unfold ex0 at m0
  obtain ⟨x0, m1⟩ := ba m0
  obtain ⟨x1, m2⟩ := ba m1
  obtain ⟨x2, m3⟩ := ba m2
  obtain ⟨x3, m4⟩ := ba m3
  obtain ⟨x4, m5⟩ := ba m4
  obtain ⟨x5, m6⟩ := ba m5
  obtain ⟨x6, m7⟩ := ba m6
  obtain ⟨x7, m8⟩ := ba m7
  obtain ⟨x8, m9⟩ := ba m8
  obtain ⟨x9, m10⟩ := ba m9
  obtain ⟨x10, m11⟩ := ba m10
  obtain ⟨x11, m12⟩ := ba m11
  obtain ⟨x12, m13⟩ := ba m12
  obtain ⟨x13, m14⟩ := ba m13
  obtain ⟨x14, m15⟩ := ba m14
  obtain ⟨x15, m16⟩ := ba m15
  obtain ⟨x16, m17⟩ := ba m16
  obtain ⟨x17, m18⟩ := ba m17
  obtain ⟨x18, m19⟩ := ba m18
  obtain ⟨x19, m20⟩ := ba m19
  obtain ⟨x20, m21⟩ := ba m20
  obtain ⟨x21, m22⟩ := ba m21
  obtain ⟨x22, m23⟩ := ba m22
  obtain ⟨x23, m24⟩ := ba m23
  obtain ⟨x24, m25⟩ := ba m24
  obtain ⟨x25, m26⟩ := ba m25
  obtain ⟨x26, m27⟩ := ba m26
  obtain ⟨x27, m28⟩ := ba m27
  obtain ⟨x28, m29⟩ := ba m28
  obtain ⟨x29, m30⟩ := ba m29
  obtain ⟨x30, m31⟩ := ba m30
  obtain ⟨x31, m32⟩ := ba m31
  obtain ⟨x32, m33⟩ := ba m32
  obtain ⟨x33, m34⟩ := ba m33
  obtain ⟨x34, m35⟩ := ba m34
  obtain ⟨x35, m36⟩ := ba m35
  obtain ⟨x36, m37⟩ := ba m36
  obtain ⟨x37, m38⟩ := ba m37
  obtain ⟨x38, m39⟩ := ba m38
  obtain ⟨x39, m40⟩ := ba m39
  obtain ⟨x40, m41⟩ := ba m40
  obtain ⟨x41, m42⟩ := ba m41
  obtain ⟨x42, m43⟩ := ba m42
  obtain ⟨x43, m44⟩ := ba m43
  obtain ⟨x44, m45⟩ := ba m44
  obtain ⟨x45, m46⟩ := ba m45
  obtain ⟨x46, m47⟩ := ba m46
  obtain ⟨x47, m48⟩ := ba m47
  obtain ⟨x48, m49⟩ := ba m48
  obtain ⟨x49, m50⟩ := ba m49
  obtain ⟨x50, m51⟩ := ba m50
  obtain ⟨x51, m52⟩ := ba m51
  exact {
    d__wall := c.def_ 0,
    d_is_integer := c.def_ 1,
    d_in_range := c.def_ 2,
    d_check_number := c.def_ 3,
    d_check_least := c.def_ 4,
    d_is_key := c.def_ 5,
    d_check_key := c.def_ 6,
    d_is_point := c.def_ 7,
    d_check_point := c.def_ 8,
    d_check_value := c.def_ 9,
    d_log_with := c.def_ 10,
    d_is_amount := c.def_ 11,
    d_are_rows := c.def_ 12,
    d_is_change := c.def_ 13,
    d_are_changes := c.def_ 14,
    d_is_own := c.def_ 15,
    d_is_entry := c.def_ 16,
    d_recovered := c.def_ 17,
    d_is_like := c.def_ 18,
    d_is_recovered := c.def_ 19,
    d__law_hand := c.def_ 20,
    d__law_draw := c.def_ 21,
    d__law_entries := c.def_ 22,
    d__law_forms := c.def_ 23,
    d__law_follows := c.def_ 24,
    d__law_told := c.def_ 25,
    d_law := c.def_ 26,
    d_InvalidNumber_init := c.def_ 27,
    d_InvalidKey_init := c.def_ 28,
    d_InvalidPoint_init := c.def_ 29,
    d_InvalidArc_init := c.def_ 30,
    d_InvalidEntries_init := c.def_ 31,
    d_Arc_init := c.def_ 32,
    d_Arc_start := c.def_ 33,
    d_Arc_end := c.def_ 34,
    d_Arc_contains := c.def_ 35,
    d_Arc_and := c.def_ 36,
    d_Arc_split := c.def_ 37,
    d_Arc_eq := c.def_ 38,
    d_Arc_repr := c.def_ 39,
    d_ChangeLog_init := c.def_ 40,
    d_ChangeLog_bound := c.def_ 41,
    d_ChangeLog_floor := c.def_ 42,
    d_ChangeLog_last := c.def_ 43,
    d_ChangeLog_add := c.def_ 44,
    d_ChangeLog_trim := c.def_ 45,
    d_ChangeLog_changes := c.def_ 46,
    d_ChangeLog_since := c.def_ 47,
    d_ChangeLog_len := c.def_ 48,
    d_ChangeLog_eq := c.def_ 49,
    d_Recovery_init := c.def_ 50,
    d_Recovery_take := c.def_ 51,
    d_Recovery_take_own := c.def_ 52,
    d_Recovery_take_change := c.def_ 53,
    d_Recovery_shards := c.def_ 54,
    m__wall := glo_ok X G (c.fact 0 (f := .glo "_wall")),
    m_is_integer := glo_ok X G (c.fact 1 (f := .glo "is_integer")),
    m_in_range := glo_ok X G (c.fact 2 (f := .glo "in_range")),
    m_check_number := glo_ok X G (c.fact 3 (f := .glo "check_number")),
    m_check_least := glo_ok X G (c.fact 4 (f := .glo "check_least")),
    m_is_key := glo_ok X G (c.fact 5 (f := .glo "is_key")),
    m_check_key := glo_ok X G (c.fact 6 (f := .glo "check_key")),
    m_is_point := glo_ok X G (c.fact 7 (f := .glo "is_point")),
    m_check_point := glo_ok X G (c.fact 8 (f := .glo "check_point")),
    m_check_value := glo_ok X G (c.fact 9 (f := .glo "check_value")),
    m_log_with := glo_ok X G (c.fact 10 (f := .glo "log_with")),
    m_is_amount := glo_ok X G (c.fact 11 (f := .glo "is_amount")),
    m_are_rows := glo_ok X G (c.fact 12 (f := .glo "are_rows")),
    m_is_change := glo_ok X G (c.fact 13 (f := .glo "is_change")),
    m_are_changes := glo_ok X G (c.fact 14 (f := .glo "are_changes")),
    m_is_own := glo_ok X G (c.fact 15 (f := .glo "is_own")),
    m_is_entry := glo_ok X G (c.fact 16 (f := .glo "is_entry")),
    m_recovered := glo_ok X G (c.fact 17 (f := .glo "recovered")),
    m_is_like := glo_ok X G (c.fact 18 (f := .glo "is_like")),
    m_is_recovered := glo_ok X G (c.fact 19 (f := .glo "is_recovered")),
    m__law_hand := glo_ok X G (c.fact 20 (f := .glo "_law_hand")),
    m__law_draw := glo_ok X G (c.fact 21 (f := .glo "_law_draw")),
    m__law_entries := glo_ok X G (c.fact 22 (f := .glo "_law_entries")),
    m__law_forms := glo_ok X G (c.fact 23 (f := .glo "_law_forms")),
    m__law_follows := glo_ok X G (c.fact 24 (f := .glo "_law_follows")),
    m__law_told := glo_ok X G (c.fact 25 (f := .glo "_law_told")),
    m_law := glo_ok X G (c.fact 26 (f := .glo "law")),
    m_InvalidNumber := glo_ok X G (c.fact 27 (f := .glo "InvalidNumber")),
    m_InvalidKey := glo_ok X G (c.fact 28 (f := .glo "InvalidKey")),
    m_InvalidPoint := glo_ok X G (c.fact 29 (f := .glo "InvalidPoint")),
    m_InvalidArc := glo_ok X G (c.fact 30 (f := .glo "InvalidArc")),
    m_InvalidEntries := glo_ok X G (c.fact 31 (f := .glo "InvalidEntries")),
    m_Arc := glo_ok X G (c.fact 32 (f := .glo "Arc")),
    c_Arc := cls_ok (c.fact 33 (f := .cls "Arc")),
    k_Arc := mkr_ok (c.fact 34 (f := .mkr "Arc")),
    n_Arc_own_start := noat_ok (c.fact 35 (f := .noat "Arc" "own_start")),
    n_Arc_own_end := noat_ok (c.fact 36 (f := .noat "Arc" "own_end")),
    e_Arc_contains := meth_ok (c.fact 37 (f := .meth "Arc" "__contains__")),
    e_Arc_and := meth_ok (c.fact 38 (f := .meth "Arc" "__and__")),
    e_Arc_split := meth_ok (c.fact 39 (f := .meth "Arc" "split")),
    e_Arc_eq := meth_ok (c.fact 40 (f := .meth "Arc" "__eq__")),
    e_Arc_repr := meth_ok (c.fact 41 (f := .meth "Arc" "__repr__")),
    m_ChangeLog := glo_ok X G (c.fact 42 (f := .glo "ChangeLog")),
    c_ChangeLog := cls_ok (c.fact 43 (f := .cls "ChangeLog")),
    k_ChangeLog := mkr_ok (c.fact 44 (f := .mkr "ChangeLog")),
    n_ChangeLog_own_bound := noat_ok (c.fact 45 (f := .noat "ChangeLog" "own_bound")),
    n_ChangeLog_own_floor := noat_ok (c.fact 46 (f := .noat "ChangeLog" "own_floor")),
    n_ChangeLog_own_changes := noat_ok (c.fact 47 (f := .noat "ChangeLog" "own_changes")),
    e_ChangeLog_last := meth_ok (c.fact 48 (f := .meth "ChangeLog" "last")),
    e_ChangeLog_add := meth_ok (c.fact 49 (f := .meth "ChangeLog" "add")),
    e_ChangeLog_trim := meth_ok (c.fact 50 (f := .meth "ChangeLog" "trim")),
    e_ChangeLog_changes := meth_ok (c.fact 51 (f := .meth "ChangeLog" "changes")),
    e_ChangeLog_since := meth_ok (c.fact 52 (f := .meth "ChangeLog" "since")),
    e_ChangeLog_len := meth_ok (c.fact 53 (f := .meth "ChangeLog" "__len__")),
    e_ChangeLog_eq := meth_ok (c.fact 54 (f := .meth "ChangeLog" "__eq__")),
    m_Recovery := glo_ok X G (c.fact 55 (f := .glo "Recovery")),
    c_Recovery := cls_ok (c.fact 56 (f := .cls "Recovery")),
    k_Recovery := mkr_ok (c.fact 57 (f := .mkr "Recovery")),
    n_Recovery_own_bound := noat_ok (c.fact 58 (f := .noat "Recovery" "own_bound")),
    n_Recovery_own_moment := noat_ok (c.fact 59 (f := .noat "Recovery" "own_moment")),
    n_Recovery_own_shards := noat_ok (c.fact 60 (f := .noat "Recovery" "own_shards")),
    e_Recovery_take := meth_ok (c.fact 61 (f := .meth "Recovery" "take")),
    e_Recovery_take_own := meth_ok (c.fact 62 (f := .meth "Recovery" "take_own")),
    e_Recovery_take_change := meth_ok (c.fact 63 (f := .meth "Recovery" "take_change")),
    e_Recovery_shards := meth_ok (c.fact 64 (f := .meth "Recovery" "shards")),
    v_MAX_NUMBER := int_ok X G (c.fact 65 (f := .int "MAX_NUMBER" 4294967296)),
    v_MAX_LENGTH := int_ok X G (c.fact 66 (f := .int "MAX_LENGTH" 20)),
    v_BEHIND := str_ok X G (c.fact 67 (f := .str "BEHIND" "!")),
    v_CHARACTERS := str_ok X G (c.fact 68 (f := .str "CHARACTERS" "abcdefghijklmnopqrstuvwxyz0123456789")),
    v_MAX_BOUND := int_ok X G (c.fact 69 (f := .int "MAX_BOUND" 1000)),
    b_NotImplemented := free_ok X G (c.fact 70 (f := .free "NotImplemented")),
    b_ValueError := free_ok X G (c.fact 71 (f := .free "ValueError")),
    b_all := free_ok X G (c.fact 72 (f := .free "all")),
    b_bool := free_ok X G (c.fact 73 (f := .free "bool")),
    b_dict := free_ok X G (c.fact 74 (f := .free "dict")),
    b_enumerate := free_ok X G (c.fact 75 (f := .free "enumerate")),
    b_int := free_ok X G (c.fact 76 (f := .free "int")),
    b_isinstance := free_ok X G (c.fact 77 (f := .free "isinstance")),
    b_len := free_ok X G (c.fact 78 (f := .free "len")),
    b_list := free_ok X G (c.fact 79 (f := .free "list")),
    b_max := free_ok X G (c.fact 80 (f := .free "max")),
    b_min := free_ok X G (c.fact 81 (f := .free "min")),
    b_property := free_ok X G (c.fact 82 (f := .free "property")),
    b_range := free_ok X G (c.fact 83 (f := .free "range")),
    b_repr := free_ok X G (c.fact 84 (f := .free "repr")),
    b_sorted := free_ok X G (c.fact 85 (f := .free "sorted")),
    b_str := free_ok X G (c.fact 86 (f := .free "str")),
    b_tuple := free_ok X G (c.fact 87 (f := .free "tuple")),
    b_zip := free_ok X G (c.fact 88 (f := .free "zip")),
    r_InvalidNumber := excT_ok (glo_ok X G (c.fact 27 (f := .glo "InvalidNumber"))) x0,
    xc_InvalidNumber := excC_ok x1,
    xf_InvalidNumber := xfB_ok x2,
    xn_InvalidNumber_value := eqO_ok x3,
    xk_InvalidNumber := of_decide_eq_true x4,
    em_InvalidNumber_InvalidEntries := of_decide_eq_true x5,
    em_InvalidNumber_InvalidNumber := of_decide_eq_true x6,
    r_InvalidKey := excT_ok (glo_ok X G (c.fact 28 (f := .glo "InvalidKey"))) x7,
    xc_InvalidKey := excC_ok x8,
    xf_InvalidKey := xfB_ok x9,
    xn_InvalidKey_value := eqO_ok x10,
    xk_InvalidKey := of_decide_eq_true x11,
    em_InvalidKey_InvalidEntries := of_decide_eq_true x12,
    em_InvalidKey_InvalidNumber := of_decide_eq_true x13,
    r_InvalidPoint := excT_ok (glo_ok X G (c.fact 29 (f := .glo "InvalidPoint"))) x14,
    xc_InvalidPoint := excC_ok x15,
    xf_InvalidPoint := xfB_ok x16,
    xn_InvalidPoint_value := eqO_ok x17,
    xk_InvalidPoint := of_decide_eq_true x18,
    em_InvalidPoint_InvalidEntries := of_decide_eq_true x19,
    em_InvalidPoint_InvalidNumber := of_decide_eq_true x20,
    r_InvalidArc := excT_ok (glo_ok X G (c.fact 30 (f := .glo "InvalidArc"))) x21,
    xc_InvalidArc := excC_ok x22,
    xf_InvalidArc := xfB_ok x23,
    xn_InvalidArc_first := eqO_ok x24,
    xn_InvalidArc_second := eqO_ok x25,
    xk_InvalidArc := of_decide_eq_true x26,
    em_InvalidArc_InvalidEntries := of_decide_eq_true x27,
    em_InvalidArc_InvalidNumber := of_decide_eq_true x28,
    r_InvalidEntries := excT_ok (glo_ok X G (c.fact 31 (f := .glo "InvalidEntries"))) x29,
    xc_InvalidEntries := excC_ok x30,
    xf_InvalidEntries := xfB_ok x31,
    xn_InvalidEntries_position := eqO_ok x32,
    xk_InvalidEntries := of_decide_eq_true x33,
    em_InvalidEntries_InvalidEntries := of_decide_eq_true x34,
    em_InvalidEntries_InvalidNumber := of_decide_eq_true x35,
    p_Arc_start := propB_ok x36,
    p_Arc_end := propB_ok x37,
    o_Arc := ownC_ok (cls_ok (c.fact 33 (f := .cls "Arc"))) x38,
    q_Arc := ownK_ok x39,
    f_Arc := first_ok x40,
    x_Arc_ne := noNe_ok x41,
    a_Arc := x42,
    p_ChangeLog_bound := propB_ok x43,
    p_ChangeLog_floor := propB_ok x44,
    o_ChangeLog := ownC_ok (cls_ok (c.fact 43 (f := .cls "ChangeLog"))) x45,
    q_ChangeLog := ownK_ok x46,
    f_ChangeLog := first_ok x47,
    x_ChangeLog_ne := noNe_ok x48,
    o_Recovery := ownC_ok (cls_ok (c.fact 56 (f := .cls "Recovery"))) x49,
    q_Recovery := ownK_ok x50,
    f_Recovery := first_ok x51 }
end k33
open PySem PySem.W PySem.Calls PyProof.Rows
set_option maxRecDepth 100000 in
set_option maxHeartbeats 0 in
theorem PySem.Challenge.cw_arccursors_k33_invalid_journals_holds : PySem.Challenge.rw_arccursors_k33_invalid_journals.Holds := by
  w_on; o_law
  refine HandSHeadRun.head_any (r := OpenLaw.row PySem.Challenge.rw_arccursors_k33_invalid_journals) (q := view (OpenLaw.row PySem.Challenge.rw_arccursors_k33_invalid_journals).prog [44]) (H := k33.hk) (ob := k33.ob) (M := 20000) (loose := k33.loose) (d := HandSHeadRun.topDef (OpenLaw.row PySem.Challenge.rw_arccursors_k33_invalid_journals).prog 44) (kwd := []) k33.ob_eq
    (by kernel_rfl) (fun s => by kernel_rfl) k33.run (by kernel_rfl) (by kernel_rfl) (by kernel_rfl) (by rfl) (by first | assumption | decide +kernel) (by decide +kernel) ⟨rfl, rfl, rfl, rfl, rfl, by decide +kernel⟩ ?hw ?hc
  case hw => w_witness2
  case hc =>
    refine Ah.law_walkT (l := PySem.Challenge.rw_arccursors_k33_invalid_journals) (n := 63) (k := 12) rfl (by decide) (by kernel_rfl) ⟨rfl, by decide, by decide⟩ ?F
    intro w mg fa h Y G hmg0
    obtain ⟨K, KX, c, tt⟩ := Y
    have hmg : mg ("law" : PySem.Str) = some (.ref fa) := by
      have e : (HandSHeadRun.topDef (OpenLaw.row PySem.Challenge.rw_arccursors_k33_invalid_journals).prog 44).name = ("law" : PySem.Str) := by kernel_rfl
      rw [← e]
      exact hmg0
    have T := k33.txt KX G c tt
    have e := hmg.symm.trans T.m_law
    cases e
    obtain ⟨sp, h3, h4⟩ := k33.law_end (P := (PySem.Challenge.rw_arccursors_k33_invalid_journals).prog) (w := w) T
    refine ⟨K, k33.tf.map (Ah.cTA K), sp, KX, fun p hp => ?_, fun p hp => ?_, fun p hp => ?_, h3, h4⟩
    · obtain ⟨f, hf, rfl⟩ := List.mem_map.mp hp
      exact tt.empty f hf
    · obtain ⟨f, hf, rfl⟩ := List.mem_map.mp hp
      exact tt.out f hf
    · obtain ⟨f, hf, rfl⟩ := List.mem_map.mp hp
      exact PySem.W.codeHd_of_K KX (tt.hd f hf)
