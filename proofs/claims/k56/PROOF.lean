import PyProof.Rows.All
import Wide.All
import OpenK.AllK
import Wide.FinOn
import KE.KStateDown
import HandS.ForMost
import HandS.More
import HandS.Exc
import HandS.WordsExc
import HandS.Defaults
import HandS.Property
import HandS.Head0
import HandS.Head1
import HandS.Head2
import HandS.HeadEnd
import HandS.HeadHook1
import HandS.HeadHook2
import HandS.HeadHook3
import HandS.HeadHook4
import HandS.IsInst
import HandS.Flow
import HandS.Star
import HandS.FStr
import HandS.OwnEq
import HandS.Wide
import HandS.TupLe
import HandS.Codes
import PyProof.InstNe
import PyProof.StrBlock2
import HandS.SlotsOwn
import KE.KExcInit
import HandS.Walk
import PyProof.ExcBaseAll.LookupError
import PyProof.ExcBaseAll.RuntimeError
import PyProof.ExcBaseAll.OverflowError
import HandS.ExcField
import HandS.ExcInit
import HandS.TryMany
import HandS.ExcIs
import HandS.Lambda
import HandS.EndTab
import KE.DataCmp
import HandS.DictComp
import HandS.SortRule
import HandS.Finally
import HandS.Style
import HandS.HotCalls
import PyProof.ReprNest
import PyProof.DictFindH
import HandS.Conv
import KE.KEqNest
import KE.DataEq
import PyProof.StrLawsRepr
import HandS.ExcOwn
import HandS.ExcValue
import HandS.MakeKw
import KE.KExcIs
import KE.SortKeyHeap
import KE.KIntText
import KE.IntTextLaws
import PyProof.DictUpdate
import PyProof.ListRange
import HandS.ListItems
import HandS.DeepEq
import HandS.TupAny
import KE.KDictPairs
import HandS.FltList
import KE.KItemsList
import HandS.MakeKwOnly
import KE.KDictList
import KE.KDictSum
import HandS.Deep
import KE.KTryMore
import HandS.GenList
import PySem.Challenge.RW_arccursors_k56_errors_of_records
set_option Elab.async false
set_option linter.all false
set_option maxRecDepth 100000
set_option maxHeartbeats 4000000
/-! the head of a row by facts: defs at any address -/
namespace Ah
open PySem PySem.Spec PyProof.Rows L2 He
abbrev Frag := PySem.W.Frag
/-- the getter of a property -/
def gtA (C f : Str) (K : Frag) : Addr := match PySem.W.recIn K (ma K (ga K C) f) "property" with
  | some (.ref g :: _) => g
  | _ => 0
def glA (x : Str) (K : Frag) : Addr := ga K x
def mtA (C m : Str) (K : Frag) : Addr := ma K (ga K C) m
structure DefG where
  ad : Frag → Addr
  name : Str
  qual : Str
  params : Arguments
  body : List Stmt
  scope : Scope
  dfl : List Dv := []
  kwd : List (Str × Dv) := []
def fnG (K : Frag) (a : Addr) : FnW := match K.lookup a with
  | some ⟨_, _, .func fd, _⟩ => some (fd.name, fd.qualname, fd.params, fd.body, fd.scope, fd.globals, fd.closure, fd.builtins)
  | _ => none
def DefG.val (d : DefG) : FnW := some (d.name, d.qual, d.params, .stmts d.body, d.scope, mainGlobals, [], builtinsNs)
def DefG.dvs (K : Frag) (d : DefG) : List V := d.dfl.map (Dv.v K)
def DefG.kws (K : Frag) (d : DefG) : List (Str × V) := d.kwd.map fun q => (q.1, q.2.v K)
def DefG.ok (K : Frag) (d : DefG) : Bool := PySem.W.keepIn K (.ref (d.ad K)) && (match K.lookup (d.ad K) with
  | some ⟨_, _, .func fd, _⟩ => PySem.W.codeIn K fd.code d.qual && (dflB K fd.defaults (d.dvs K) && kwdB K fd.kwdefaults (d.kws K))
  | _ => false)
abbrev Stands (K : Frag) (d : DefG) : Prop := ∃ fd, FunD K d.name d.qual d.params d.body d.scope (d.dvs K) (d.kws K) (d.ad K) fd
theorem DefG.funD {K : Frag} {d : DefG} (e : fnG K (d.ad K) = d.val) (c : d.ok K = true) : Stands K d := by
  obtain ⟨kp, c2⟩ := ba c
  unfold fnG at e
  cases q : K.lookup (d.ad K) with
  | none =>
    rw [q] at c2
    cases c2
  | some o =>
    obtain ⟨oc, od, dt, osl⟩ := o
    rw [q] at c2 e
    cases dt with
    | func fd =>
      obtain ⟨n1, n2, n3, n4, n5, n6, n7, n8, n9, n10, n11, n12, n13, n14, n15⟩ := fd
      have e2 : (some (n1, n2, n3, n4, n5, n6, n7, n15) : FnW) = some (d.name, d.qual, d.params, .stmts d.body, d.scope, mainGlobals, [], builtinsNs) := e
      simp only [Option.some.injEq, Prod.mk.injEq] at e2
      obtain ⟨h1, h2, h3, h4, h5, h6, h7, h8⟩ := e2
      subst h1 h2 h3 h4 h5 h6 h7 h8
      have c3 : (PySem.W.codeIn K n13 d.qual && (dflB K n8 (d.dvs K) && kwdB K n9 (d.kws K))) = true := c2
      obtain ⟨k1, k2⟩ := ba c3
      obtain ⟨k3, k4⟩ := ba k2
      exact ⟨_, ⟨oc, od, n8, n9, n10, n11, n12, n13, n14, osl, rfl, q, k1, dflB_ok k3, kwdB_ok k4⟩, kp⟩
    | _ => cases c2
/-- the code object of the def at a -/
def CodeV (K : Frag) (a : Addr) : Value := match K.lookup a with
  | some ⟨_, _, .func fd, _⟩ => fd.code
  | _ => .none
def codeA (K : Frag) (a : Addr) : Addr := match CodeV K a with
  | .ref c => c
  | _ => 0
/-- a def's code object and its table -/
def cTA (K : Frag) (f : Frag → Addr) : Addr × Addr := (codeA K (f K), tabOf K (codeA K (f K)))
def tabB (g : Addr → Option Obj) (tf : List (Frag → Addr)) (K : Frag) : Bool := tf.all fun f => decide (CodeV K (f K) = .ref (codeA K (f K))) && (PySem.W.codeHdIn K (cTA K f).1 (cTA K f).2 && (match g (cTA K f).2 with
  | some o => emptyTab o
  | none => false))
/-- what is known of the tables of the defs tf -/
structure TabF (tf : List (Frag → Addr)) (h : Heap) (K : Frag) : Prop where
  code : ∀ f ∈ tf, CodeV K (f K) = .ref (codeA K (f K))
  hd : ∀ f ∈ tf, PySem.W.codeHdIn K (cTA K f).1 (cTA K f).2 = true
  out : ∀ f ∈ tf, K.lookup (cTA K f).2 = none
  empty : ∀ f ∈ tf, h.get? (cTA K f).2 = some { cls := .none, data := .fields #[] }
abbrev AlG : Type := Bool × List FnW
def obsG (fa : List Fa) (ex : Frag → Bool) (fn : List DefG) (K : Frag) : AlG := ((fa.all fun f => f.ok K) && (ex K && fn.all fun d => d.ok K), fn.map fun d => fnG K (d.ad K))
def valG (fn : List DefG) : AlG := (true, fn.map DefG.val)
def SaysG (fa : List Fa) (ex : Frag → Bool) (fn : List DefG) (K : Frag) : Prop := obsG fa ex fn K = valG fn
abbrev AlT : Type := AlG × Bool
def obsGG (n : Nat) (fa : List Fa) (ex : Frag → Bool) (fn : List DefG) (tf : List (Frag → Addr)) (g : Addr → Option Obj) : AlT := (obsG fa ex fn (frT g (asD g n)), tabB g tf (frT g (asD g n)))
theorem tabF_of {tf : List (Frag → Addr)} {n : Nat} {h : Heap} (e : tabB h.get? tf (frT h.get? (asD h.get? n)) = true) : TabF tf h (frT h.get? (asD h.get? n)) := by
  have key : ∀ f ∈ tf, _ := fun f hf => ba (List.all_eq_true.mp e f hf)
  have tab : ∀ f ∈ tf, ∃ o, h.get? (cTA (frT h.get? (asD h.get? n)) f).2 = some o ∧ emptyTab o = true := fun f hf => by
    have z := (ba (key f hf).2).2
    cases q : h.get? (cTA (frT h.get? (asD h.get? n)) f).2 with
    | none =>
      rw [q] at z
      cases z
    | some o =>
      rw [q] at z
      exact ⟨o, rfl, z⟩
  exact ⟨fun f hf => of_decide_eq_true (key f hf).1, fun f hf => (ba (key f hf).2).1, fun f hf => by
    obtain ⟨o, q, z⟩ := tab f hf
    exact frT_none q z, fun f hf => by
    obtain ⟨o, q, z⟩ := tab f hf
    rw [q, emptyTab_eq z]⟩
def hookG (n : Nat) (fa : List Fa) (ex : Frag → Bool) (fn : List DefG) (tf : List (Frag → Addr)) : PySem.W.Hook where
  α := AlT
  obs := fun s => obsGG n fa ex fn tf s.heap.get?
  val := fun _ => (valG fn, true)
  says := fun _ h => ∃ K : Frag, K.In h ∧ SaysG fa ex fn K ∧ TabF tf h K
  of := fun _ _ e => ⟨_, frT_in, congrArg (fun z : AlT => z.1) e, tabF_of (congrArg (fun z : AlT => z.2) e)⟩
  keeps := fun _ _ _ ⟨K, hK, c, t⟩ k => ⟨K, PySem.W.Frag.In.keeps hK k, c, ⟨t.code, t.hd, t.out, fun f hf => k _ _ (t.empty f hf)⟩⟩
theorem obsGG_eq {n : Nat} {fa : List Fa} {ex : Frag → Bool} {fn : List DefG} {tf : List (Frag → Addr)} {g : Addr → Option Obj} {s : Shared} (h : ∀ a, g a = s.heap.get? a) : obsGG n fa ex fn tf g = (hookG n fa ex fn tf).obs s := by
  have e : g = s.heap.get? := funext h
  rw [e] <;> rfl
section
variable {fa : List Fa} {ex : Frag → Bool} {fn : List DefG} {K : Frag}
theorem SaysG.fact (c : SaysG fa ex fn K) (i : Nat) {f : Fa} (h : fa[i]? = some f := by rfl) : f.ok K = true := by
  have c1 := (ba (show ((fa.all fun f => f.ok K) && (ex K && fn.all fun d => d.ok K)) = true from congrArg (fun z : AlG => z.1) c)).1
  exact List.all_eq_true.mp c1 f (List.mem_of_getElem? h)
theorem SaysG.more (c : SaysG fa ex fn K) : ex K = true :=
  (ba (ba (show ((fa.all fun f => f.ok K) && (ex K && fn.all fun d => d.ok K)) = true from congrArg (fun z : AlG => z.1) c)).2).1
theorem SaysG.def_ (c : SaysG fa ex fn K) (i : Nat) {d : DefG} (h : fn[i]? = some d := by rfl) : Stands K d := by
  have c2 := (ba (ba (show ((fa.all fun f => f.ok K) && (ex K && fn.all fun d => d.ok K)) = true from congrArg (fun z : AlG => z.1) c)).2).2
  have e : fn.map (fun d => fnG K (d.ad K)) = fn.map DefG.val := congrArg (fun z : AlG => z.2) c
  have e2 : (fn.map fun d => fnG K (d.ad K))[i]? = (fn.map DefG.val)[i]? := by rw [e]
  rw [List.getElem?_map, List.getElem?_map, h] at e2
  exact DefG.funD (Option.some.inj e2) (List.all_eq_true.mp c2 d (List.mem_of_getElem? h))
end
/-- a property of a class -/
def propB (C f : Str) (K : Frag) : Bool :=
  eqO (PySem.W.findIn K (.ref (ga K C)) f) (some (some (.ref (ma K (ga K C) f)))) &&
  (eqO (PySem.W.specialIn K (.ref (ma K (ga K C) f)) "__get__") (some (some (.builtin "property.__get__"))) &&
  (decide (PySem.W.takesIn K (.ref (ma K (ga K C) f)) = some true) &&
  (match PySem.W.recIn K (ma K (ga K C) f) "property" with
    | some (.ref _ :: _) => true
    | _ => false)))
theorem propB_ok {C f : Str} {K : Frag} (h : propB C f K = true) : PropOf K (ga K C) f (ma K (ga K C) f) (gtA C f K) := by
  unfold propB at h
  obtain ⟨h1, h2⟩ := ba h
  obtain ⟨h2, h3⟩ := ba h2
  obtain ⟨h3, h4⟩ := ba h3
  refine ⟨eqO_ok h1, eqO_ok h2, of_decide_eq_true h3, ?_⟩
  unfold gtA
  cases q : PySem.W.recIn K (ma K (ga K C) f) "property" with
  | none => rw [q] at h4; cases h4
  | some l =>
    rw [q] at h4
    cases l with
    | nil => cases h4
    | cons v r =>
      cases v with
      | ref g => exact ⟨r, rfl⟩
      | _ => cases h4
end Ah

/-! short words: a def that keeps its promise (FnB), calls of it. Room, and no repr is under way (Rm) -/
namespace Ah
open PySem PySem.Spec PyProof.Rows L2 He
structure Rm (k : Nat) (A : Around) : Prop where
  r : Room k A
  g : A.guards = some []
section
variable {j k : Nat} {A : Around}
theorem Rm.mono (h : Rm k A) (hj : j ≤ k) : Rm j A := ⟨h.r.mono hj, h.g⟩
theorem Rm.in1 (h : Rm (k + 1) A) : Rm k A.in1 := ⟨h.r.in1, h.g⟩
theorem Rm.make (h : Rm (k + 1) A) (C : Addr) (us : List Value) (kw : List (Str × Value)) : Rm k (A.under (.builtin "type.__call__" ⟨.ref C :: us, kw⟩)) := by
  refine ⟨h.r.make C us kw, ?_⟩
  show pushGuards (Code.builtin "type.__call__" ⟨.ref C :: us, kw⟩).guards A.guards = some []
  rw [h.g]
  rfl
theorem Rm.hu (h : Rm k A) : A.units + 1 < cLine := hu_of h.r
end
theorem hu0 {A : Around} {k : Nat} (hr : Rm k A) : A.units < cLine := hr.r.units0
theorem hu64 {A : Around} {k : Nat} (hr : Rm k A) : A.units + 64 < cLine := hr.r.units
theorem hu99 {A : Around} {k : Nat} (hr : Rm k A) : A.units + 99 < cLine := by
  have := hr.r.un
  omega
/-- the def at f, called by its positional arguments, keeps the promise sp -/
structure FnB (P : Program) (w : World) (K : Frag) (mg : Str → Option Value) (base : Heap) (k : Nat) (f : Addr) (sp : Sp) : Prop where
  run : ∀ (A : Around) (outer : List Env) (s : Shared) (H : Hp) (us : List Value) (vs : List V) (Q : VK) (E : XK), Rm k A → Env0 P w K mg base A outer s H → Vals vs us → sp vs H Q E →
    codeAny (model P w) A (.call (.ref f) ⟨us, []⟩) (CR (L2.CX P w) outer P w H s Q E) s
  kp : PySem.W.keepIn K (.ref f) = true
section
variable {P : Program} {w : World} {K : Frag} {mg : Str → Option Value} {base : Heap}
theorem FnB.mono {j k : Nat} {f : Addr} {sp : Sp} (F : FnB P w K mg base j f sp) (h : j ≤ k) : FnB P w K mg base k f sp := ⟨fun A outer s H us vs Q E hr => F.run A outer s H us vs Q E (hr.mono h), F.kp⟩
theorem FnB.imp {k : Nat} {f : Addr} {sp sp' : Sp} (F : FnB P w K mg base k f sp) (h : ∀ vs H Q E, sp' vs H Q E → sp vs H Q E) : FnB P w K mg base k f sp' := ⟨fun A outer s H us vs Q E hr e0 r q => F.run A outer s H us vs Q E hr e0 r (h _ _ _ _ q), F.kp⟩
/-- a body that keeps a promise, wherever it is entered with room -/
def BodyB (CX : CXT) (P : Program) (w : World) (K : Frag) (mg : Str → Option Value) (base : Heap) (N : List Str) (d : DefG) (k : Nat) (sp : Sp) : Prop :=
  ∀ (A : Around) (outer : List Env) (s : Shared) (H : Hp) (vs : List V) (Q : VK) (E : XK), Rm k (A.deeper (envOfC d.qual d.scope s.heap.objs.size (d.ad K) (CodeV K (d.ad K)))) → sp vs H Q E →
    ∃ t, PSs (cxOf CX P w K mg base N d.qual d.scope (d.ad K) (CodeV K (d.ad K)) A outer s H E) d.body t ∧ t { nx := fun _ H' => Q .non H', rt := Q } (L2.start N vs) H
/-- how a call of such a def runs, its arguments bound -/
theorem body_run {CX : CXT} {N ps : List Str} {k : Nat} {sp : Sp} {d : DefG} {fd : FuncData} {dvs : List V} {kws : List (Str × V)} (F : FunD K d.name d.qual d.params d.body d.scope dvs kws (d.ad K) fd) (S : FnScope N ps d.scope) (hbody : BodyB CX P w K mg base N d k sp)
    {A : Around} {outer : List Env} {s : Shared} {H : Hp} {args : Args} {us : List Value} {vs : List V} {Q : VK} {E : XK} (hr : Rm (k + 1) A) (e0 : Env0 P w K mg base A outer s H) (hb : BindsTo s fd args (ps.zip us)) (hl : vs.length = ps.length) (r : Vals vs us) (hsp : sp vs H Q E) :
    codeAny (model P w) A (.call (.ref (d.ad K)) args) (CR CX outer P w H s Q E) s := by
  obtain ⟨oc, od, dV, kV, doc, pm, an, cdv, ct, osl, rfl, lk, hcd, _, _⟩ := F.ex
  have KX : K.In s.heap := e0.mod.kin.keeps fun b o e => (e0.bs b o e).1
  have lim : s.heap.NoLimit := e0.mod.nolimit.keeps fun b o e => (e0.bs b o e).1
  have par : ∀ y ∈ ps.zip us, d.scope.names.lookup y.1 = some .local ∨ (d.scope.names.lookup y.1 = some .cell ∧ ((cellsFrom (s.heap.objs.size + 1) d.scope.names []).lookup y.1).isSome = true) := by
    rintro ⟨n, v⟩ hy
    cases S.par n (List.of_mem_zip hy).1 with
    | inl q => exact Or.inl q
    | inr q => exact Or.inr ⟨q, PySem.W.cellsFrom_some _ _ _ (Or.inl q)⟩
  refine codeAny_call_function hr.r.depth (KX _ _ lk) rfl S.co S.gen rfl (PySem.W.codeRec_of KX hcd) (hb _ _ _ _ ?_)
  refine wpAny_newFunctionEnv_cells S.kind par fun env he s1 x => ?_
  subst he
  refine ⟨lim.keeps x.toInCall.keep, codeAny_func ?_⟩
  have ec : CodeV K (d.ad K) = cdv := by
    unfold CodeV
    rw [lk]
  subst ec
  have hr' : Rm k (A.deeper (envOfC d.qual d.scope s.heap.objs.size (d.ad K) (CodeV K (d.ad K)))) := ⟨hr.r.deeper _, hr.g⟩
  obtain ⟨t, ht, hq⟩ := hbody A outer s H vs Q E hr' hsp
  have I := inv_start (CX := CX) (E := E) S hr.r.hd e0 hl r x
  refine wpAny_mono (ht.run [] s1 (L2.start N vs) H _ I hq) (fun fl s' hs => ?_) fun _ _ hs => hs
  cases fl with
  | ret u =>
    obtain ⟨v, _, H', J, rv, q⟩ := hs
    exact ⟨v, H', J.os, J.bare, J.base, J.hok, rv, q⟩
  | next =>
    obtain ⟨_, H', J, q⟩ := hs
    exact ⟨V.non, H', J.os, J.bare, J.base, J.hok, rfl, q⟩
  | brk => exact hs.elim fun _ z => z.elim fun _ z => z.2.elim
  | cont => exact hs.elim fun _ z => z.elim fun _ z => z.2.elim
/-- THE RULE for a def without defaults -/
theorem okD {N ps : List Str} {k : Nat} {sp : Sp} {d : DefG} (S : Stands K d) (h0 : d.dfl = []) (sc : FnScope N ps d.scope) (len : ∀ vs H Q E, sp vs H Q E → vs.length = ps.length)
    (hb : ∀ (kV doc pm : Value) (an : Option Addr) (cdv ct : Value) (us : List Value), us.length = ps.length → bindArgs (PySem.W.fnOf d.name d.qual d.params d.body d.scope .none kV doc pm an cdv ct) ⟨us, []⟩ = pure (ps.zip us))
    (hbody : BodyB (L2.CX P w) P w K mg base N d k sp) : FnB P w K mg base (k + 1) (d.ad K) sp := by
  obtain ⟨fd, F⟩ := S
  have e : d.dvs K = [] := by unfold DefG.dvs; rw [h0]; rfl
  rw [e] at F
  refine ⟨fun A outer s H us vs Q E hr e0 r hsp => ?_, F.kp⟩
  have hl := len _ _ _ _ hsp
  have KX : K.In s.heap := e0.mod.kin.keeps fun b o e => (e0.bs b o e).1
  have b := F.bindsN hb s us KX (by rw [List.append_nil, ← r.length]; exact hl)
  rw [List.append_nil] at b
  exact body_run F sc hbody hr e0 b hl r hsp
end
section
variable {X : Cx} {k j : Nat} {f C : Addr} {sp : Sp} {E : XK} {x m : Str} {e o : Expr} {es : List Expr} {t : TA} {ta : TE} {p pos apos : Pos} {pins : List (Addr × Obj)} {σ : L2.St} {H : Hp} {s : Shared}
/-- the callee runs, at A, at or below the running body -/
theorem runB {A : Around} {Q : VK} {us : List Value} {vs : List V} (F : FnB X.prog X.w X.K X.mg X.base k f sp) (hr : Rm k A) (e0 : Env0 X.prog X.w X.K X.mg X.base A X.stack s H) (hx : Passes (L2.CX X.prog X.w) X E) (I : L2.Inv X pins σ H s) (r : Vals vs us) (h : sp vs H Q E) :
    codeAny (model X.prog X.w) A (.call (.ref f) ⟨us, []⟩) (fun r s' => match r with | .ok (.ret v) => EP X pins σ Q v s' | .ok _ => False | .error e => X.xe e s') s := by
  refine codeAny_mono (F.run A X.stack s H us vs Q E hr e0 r h) fun res s' hq => ?_
  match res, hq with
  | .error e, hq => exact hx pins σ H s e s' I hq
  | .ok (.ret u), hq => exact I.after hq
theorem pe_cF (F : FnB X.prog X.w X.K X.mg X.base k f sp) (hr : Rm j X.A) (hm : X.mg x = some (.ref f)) (hx : Passes (L2.CX X.prog X.w) X E) (ha : PA X (e :: es) t) (hk : k ≤ j := by decide) (hg : Gl X x := by rfl)
    (hdb : (x == ("__debug__" : Str)) = false := by decide) (he : starEach (e :: es) X.env = (false, eval e X.env) :: starEach es X.env := by rfl) (hpl : (backTo pos (starEach es X.env)).any (·.1) = false := by rfl) :
    PE X (.Call (.Name x p) (e :: es) [] pos) (tCall sp [] E t) := by
  refine ⟨fun pins s σ H Q I h => wpAny_Call_Name_kw (ld_glob I hg hm ?_ hdb)⟩
  refine PySem.W.callWith_K (h₀ := X.base) I.ok.mod.kin F.kp (thn (ha.run pos pins s σ H _ I h) fun us s1 ⟨vs, H1, I1, r, q⟩ => ⟨I1.kIn, ?_⟩) he hpl
  simp only [List.append_nil] at q
  exact wpAny_call (runB F (hr.mono hk) I1.env0 hx I1 r q)
theorem pe_cF0 (F : FnB X.prog X.w X.K X.mg X.base k f sp) (hr : Rm j X.A) (hm : X.mg x = some (.ref f)) (hx : Passes (L2.CX X.prog X.w) X E) (hk : k ≤ j := by decide) (hg : Gl X x := by rfl) (hdb : (x == ("__debug__" : Str)) = false := by decide) :
    PE X (.Call (.Name x p) [] [] pos) (tCall sp [] E tNil) := by
  refine ⟨fun pins s σ H Q I h => wpAny_Call_Name_kw (ld_glob I hg hm ?_ hdb)⟩
  exact PySem.W.callWith_K0 (first := []) I.kIn F.kp (wpAny_call (runB (us := []) (vs := []) F (hr.mono hk) I.env0 hx I .nil h))
theorem pe_mkF (M : Mk X.K C f) (F : FnB X.prog X.w X.K X.mg X.base k f sp) (hr : Rm j X.A) (hm : X.mg x = some (.ref C)) (hx : Passes (L2.CX X.prog X.w) X E) (ha : PA X (e :: es) t) (hk : k + 1 ≤ j := by decide) (hg : Gl X x := by rfl)
    (hdb : (x == ("__debug__" : Str)) = false := by decide) (he : starEach (e :: es) X.env = (false, eval e X.env) :: starEach es X.env := by rfl) (hpl : (backTo pos (starEach es X.env)).any (·.1) = false := by rfl) :
    PE X (.Call (.Name x p) (e :: es) [] pos) (tMake C sp [] E t) := by
  refine ⟨fun pins s σ H Q I h => wpAny_Call_Name_kw (ld_glob I hg hm ?_ hdb)⟩
  refine PySem.W.callWith_K (h₀ := X.base) I.ok.mod.kin M.kp (thn (ha.run pos pins s σ H _ I h) fun us s1 ⟨vs, H1, I1, r, q⟩ => ⟨I1.kIn, ?_⟩) he hpl
  have q' := q (s1.heap.objs.size + 1) s1.heap.objs.size (I1.hok.fresh (Nat.le_succ _)) (I1.hok.fresh (Nat.le_refl _)) (Nat.ne_of_lt (Nat.lt_succ_self _))
  rw [List.append_nil] at q'
  have I2 := Inv.made (C := C) I1
  have r2 : Vals (V.ref (s1.heap.objs.size + 1) :: vs) (Value.ref (s1.heap.objs.size + 1) :: us) := .cons rfl r
  refine wpAny_call (make_map (f := f) I1.kIn M.makes M.init (beq_iff_eq.mp M.fn) (codeAny_mono (F.run _ X.stack _ _ _ _ _ E ((hr.mono hk).make C us []) (I2.env0.make C us []) r2 q') fun res s' hq' => ?_))
  match res, hq' with
  | .error e, hq' => exact hx pins σ _ _ e s' I2 hq'
  | .ok (.ret u), hq' =>
    obtain ⟨v, H', I3, rv, ev, q3⟩ := I2.after hq'
    subst ev
    exact ⟨rv, V.ref (s1.heap.objs.size + 1), H', I3, rfl, q3⟩
theorem pe_mtF {pl : Sem Bool} (he : PE X o ta) (c : Cls X.K C) (hm : Meth X.K C m f) (F : FnB X.prog X.w X.K X.mg X.base k f sp) (hr : Rm j X.A) (hx : Passes (L2.CX X.prog X.w) X E) (ha : PA X (e :: es) t) (hk : k ≤ j := by decide)
    (hst : starEach (e :: es) X.env = (false, eval e X.env) :: starEach es X.env := by rfl) (hpl : (backTo pos (starEach es X.env)).any (·.1) = false := by rfl)
    (ht : eval (.Call (.Attribute o m apos) (e :: es) [] pos) X.env = (do
      let ov ← eval o X.env
      standAt apos.atName
      let (f, first) ← holding [ov] (getMethod ov m pl)
      callWith pos f first (backTo pos (starEach (e :: es) X.env)) (backToKw pos (keywordEach [] X.env))) := by rfl) :
    PE X (.Call (.Attribute o m apos) (e :: es) [] pos) (tMeth C m sp [] E ta t) := by
  refine ⟨fun pins s σ H Q I h => PySem.W.methodCall_KW (pl := pl) (thn (he.run pins s σ H _ I h) fun u s1 ⟨x, H1, I1, rx, a, dx, fs, ex, ea, l, q⟩ => ?_) ht⟩
  subst ex
  cases (show u = Value.ref a from rx)
  refine getmeth_ok I1 ea c hm l (PySem.W.callWith_K (first := [.ref a]) (h₀ := X.base) I.ok.mod.kin hm.kp (thn (ha.run pos pins s1 σ H1 _ I1 q) fun us s2 ⟨vs, H2, I2, r, q2⟩ => ⟨I2.kIn, ?_⟩) hst hpl)
  simp only [List.append_nil] at q2
  exact wpAny_call (runB (us := .ref a :: us) (vs := .ref a :: vs) F (hr.mono hk) I2.env0 hx I2 (.cons rfl r) q2)
theorem pe_mtF0 {pl : Sem Bool} (he : PE X o ta) (c : Cls X.K C) (hm : Meth X.K C m f) (F : FnB X.prog X.w X.K X.mg X.base k f sp) (hr : Rm j X.A) (hx : Passes (L2.CX X.prog X.w) X E) (hk : k ≤ j := by decide)
    (ht : eval (.Call (.Attribute o m apos) [] [] pos) X.env = (do
      let ov ← eval o X.env
      standAt apos.atName
      let (f, first) ← holding [ov] (getMethod ov m pl)
      callWith pos f first (backTo pos (starEach [] X.env)) (backToKw pos (keywordEach [] X.env))) := by rfl) :
    PE X (.Call (.Attribute o m apos) [] [] pos) (tMeth C m sp [] E ta tNil) := by
  refine ⟨fun pins s σ H Q I h => PySem.W.methodCall_KW (pl := pl) (thn (he.run pins s σ H _ I h) fun u s1 ⟨x, H1, I1, rx, a, dx, fs, ex, ea, l, q⟩ => ?_) ht⟩
  subst ex
  cases (show u = Value.ref a from rx)
  exact getmeth_ok I1 ea c hm l (PySem.W.callWith_K0 (first := [.ref a]) I1.kIn hm.kp (wpAny_call (runB (us := [.ref a]) (vs := [.ref a]) F (hr.mono hk) I1.env0 hx I1 (.cons rfl .nil) q)))
theorem pe_prF {q : Addr} {y : Str} (he : PE X o ta) (c : Cls X.K C) (hp : PropOf X.K C y q f) (F : FnB X.prog X.w X.K X.mg X.base k f sp) (hr : Rm j X.A) (hx : Passes (L2.CX X.prog X.w) X.nox E) (hk : k + 1 ≤ j := by decide)
    (hab : attributeBase o y X.env (eval o X.env) = eval o X.env := by rfl) : PE X (.Attribute o y pos) (tProp C sp [] E ta) := by
  refine ⟨fun pins s σ H Q I h => attr_of hab (thn (he.run pins s σ H _ I h) fun u s1 ⟨x, H1, I1, rx, a, dx, fs, ex, ea, q⟩ => ?_)⟩
  subst ex
  cases (show u = Value.ref a from rx)
  obtain ⟨mA, O, _⟩ := ins_get I1.hok ea
  obtain ⟨od, J, _⟩ := O.look
  obtain ⟨rest, hrec⟩ := hp.rec_
  have I2 := I1.tok (s1.toks + 1)
  have hc : (PySem.W.clsIn X.K C).isSome = true := by
    obtain ⟨cd, hc, _⟩ := PySem.W.any_some c.hd
    rw [hc]
    rfl
  refine PySem.W.get_bind I1.kIn J (PySem.W.plainGet_of (c.get y)).1 (PySem.W.findObj_data hc hp.at_ hp.get hp.tak) (PySem.W.plainGet_of (c.get y)).2 (wpAny_call (PySem.W.prop_get (s := { s1 with toks := s1.toks + 1 }) I1.kIn hrec ?_))
  refine codeAny_mono (F.run X.A.in1 X.stack { s1 with toks := s1.toks + 1 } H1 [.ref a] [.ref a] Q E (hr.mono hk).in1 I2.env0.in1 (.cons rfl .nil) q) fun res s' hq => ?_
  match res, hq with
  | .error er, hq => exact False.elim (hx pins σ H1 { s1 with toks := s1.toks + 1 } er s' (I2.wish _) hq)
  | .ok (.ret u), hq =>
    obtain ⟨v, H', I3, rv, q3⟩ := I2.after hq
    exact wpAny_of_eq (PySem.W.handedOut_of (handed_of rv)) ⟨v, H', I3, rv, q3⟩
end
/-- a promise of a function of scalars: no heap is touched -/
theorem upd_keep {H : Hp} {a p : Addr} {o o' : HO} (h : H a = some o') (hp : H p = none) : upd H p o a = some o' := by
  rw [upd_ne (ne_of_none h hp)]
  exact h
theorem upd_other {H : Hp} {a p : Addr} {o o' : HO} (hn : a ≠ p) (h : H a = some o') : upd H p o a = some o' := by
  rw [upd_ne hn]
  exact h
theorem Same.upd {H H' : Hp} {p : Addr} {o : HO} (s : Same H H') (hp : H' p = none) : Same H (L2.upd H' p o) := fun b o' e => upd_keep (s b o' e) hp
end Ah

/-! kinds of values, isinstance -/
namespace Ah
open PySem PySem.Spec PyProof.Rows L2 He
/-- what a value is -/
inductive Kn where
  | int (i : Int)
  | bl (b : Bool)
  | str (z : Str)
  | non
  | lst (a : Addr) (xs : List V)
  | tup (a : Addr) (xs : List V)
  | dct (a : Addr) (kvs : List (Key × V))
  | ins (a C : Addr)
def bTys : List String := ["int", "bool", "str", "list", "tuple", "dict"]
/-- a class of the program's own, as isinstance sees its instances -/
structure OwnC (K : Frag) (C : Addr) : Prop where
  cl : Cls K C
  ha : PySem.W.findIn K (.ref C) "__class__" = some (some (.builtin "object.__class__"))
  hn : PySem.W.specialIn K (.builtin "object.__class__") "__get__" = some (some (.builtin "getset_descriptor.__get__"))
  htk : PySem.W.takesIn K (.builtin "object.__class__") = some true
  hm : PySem.W.mroIn K C (.type "object") = some true
  kit : ∀ T ∈ bTys, PySem.W.kitOne K (.ref C) (.type T) = some false
/-- .. as isinstance sees the class -/
structure OwnK (K : Frag) (C : Addr) : Prop where
  kit : ∀ T ∈ ["NoneType", "int", "bool", "str", "list", "tuple", "dict"], PySem.W.kitOne K (.type T) (.ref C) = some false
inductive Is (K : Frag) (H : Hp) : V → Kn → Prop where
  | int (i : Int) : Is K H (.int i) (.int i)
  | bl (b : Bool) : Is K H (.bl b) (.bl b)
  | str (z : Str) : Is K H (.str z) (.str z)
  | non : Is K H .non .non
  | lst {a : Addr} {xs : List V} (e : H a = some (.lst xs)) : Is K H (.ref a) (.lst a xs)
  | tup {a : Addr} {xs : List V} (e : H a = some (.tup xs)) : Is K H (.ref a) (.tup a xs)
  | dct {a : Addr} {kvs : List (Key × V)} (e : H a = some (.dK kvs)) : Is K H (.ref a) (.dct a kvs)
  | ins {a C dx : Addr} {fs : List (Str × V)} (e : H a = some (.ins C dx fs)) (c : OwnC K C) : Is K H (.ref a) (.ins a C)
theorem Is.same {K : Frag} {H H' : Hp} {x : V} {k : Kn} (h : Is K H x k) (s : Same H H') : Is K H' x k := by
  cases h with
  | int i => exact .int i
  | bl b => exact .bl b
  | str z => exact .str z
  | non => exact .non
  | lst e => exact .lst (s _ _ e)
  | tup e => exact .tup (s _ _ e)
  | dct e => exact .dct (s _ _ e)
  | ins e c => exact .ins (s _ _ e) c
def Kn.ty : Kn → Value
  | .int _ => .type "int"
  | .bl _ => .type "bool"
  | .str _ => .type "str"
  | .non => .type "NoneType"
  | .lst _ _ => .type "list"
  | .tup _ _ => .type "tuple"
  | .dct _ _ => .type "dict"
  | .ins _ C => .ref C
def Kn.isT : Kn → String → Bool
  | .int _, T => T == "int"
  | .bl _, T => T == "int" || T == "bool"
  | .str _, T => T == "str"
  | .non, _ => false
  | .lst _ _, T => T == "list"
  | .tup _ _, T => T == "tuple"
  | .dct _ _, T => T == "dict"
  | .ins _ _, _ => false
def Kn.isC : Kn → Addr → Bool
  | .ins _ C, D => decide (C = D)
  | _, _ => false
theorem Is.tyx {K : Frag} {H : Hp} {x : V} {k : Kn} (h : Is K H x k) : TyX K H x k.ty := by
  cases h with
  | int i => exact .base (.int i)
  | bl b => exact .base (.bl b)
  | str z => exact .base (.str z)
  | non => exact .base .non
  | lst e => exact .base (.lst e)
  | tup e => exact .base (.tup e)
  | dct e => exact .base (.dK e)
  | ins e c => exact .base (.ins e c.cl c.ha c.hn c.htk c.hm)
theorem kit6 {K : Frag} {k : String} {r : String → Bool} (h : ∀ T ∈ bTys, kitB k T = some (r T)) : ∀ T ∈ bTys, PySem.W.kitOne K (.type k) (.type T) = some (r T) := fun T hT => kit_ty (h T hT)
theorem Is.kit {K : Frag} {H : Hp} {x : V} {k : Kn} (h : Is K H x k) : ∀ T ∈ bTys, PySem.W.kitOne K k.ty (.type T) = some (k.isT T) := by
  cases h with
  | ins e c => exact c.kit
  | int i => exact kit6 (r := fun T => T == "int") (by decide +kernel)
  | bl i => exact kit6 (r := fun T => T == "int" || T == "bool") (by decide +kernel)
  | str i => exact kit6 (r := fun T => T == "str") (by decide +kernel)
  | non => exact kit6 (r := fun T => false) (by decide +kernel)
  | lst i => exact kit6 (r := fun T => T == "list") (by decide +kernel)
  | tup i => exact kit6 (r := fun T => T == "tuple") (by decide +kernel)
  | dct i => exact kit6 (r := fun T => T == "dict") (by decide +kernel)
/-- isinstance(x, T), T a built-in class -/
theorem isi (T : String) {K : Frag} {H : Hp} {x : V} {k : Kn} {Q : VK} (h : Is K H x k) (q : Q (.bl (k.isT T)) H) (hT : T ∈ bTys := by decide) : rIsi K [x, .ty T] H Q :=
  ⟨x, .ty T, _, _, _, rfl, .ty T, h.tyx, h.kit T hT, q⟩
theorem isiC {K : Frag} {H : Hp} {x : V} {k : Kn} {C : Addr} {Q : VK} (h : Is K H x k) (o : OwnK K C) (hd : ∀ a D, k = .ins a D → D ≠ C → PySem.W.kitOne K (.ref D) (.ref C) = some false) (q : Q (.bl (k.isC C)) H) : rIsi K [x, .ref C] H Q := by
  refine ⟨x, .ref C, k.ty, .ref C, k.isC C, rfl, .own C, h.tyx, ?_, q⟩
  cases h with
  | @ins a D dx fs e c =>
    show PySem.W.kitOne K (.ref D) (.ref C) = some (decide (D = C))
    by_cases z : D = C
    · subst z
      rw [decide_eq_true rfl]
      unfold PySem.W.kitOne
      rw [if_pos (by simp)]
    · rw [decide_eq_false z]
      exact hd a D rfl z
  | int i => exact o.kit _ (by decide)
  | bl i => exact o.kit _ (by decide)
  | str i => exact o.kit _ (by decide)
  | non => exact o.kit _ (by decide)
  | lst i => exact o.kit _ (by decide)
  | tup i => exact o.kit _ (by decide)
  | dct i => exact o.kit _ (by decide)
/-! constants of the module -/
theorem gint {mg : Str → Option Value} {x : Str} {i : Int} (h : ∃ t, mg x = some (.int i t)) : ∃ u, mg x = some u ∧ RelV (.int i) u := by
  obtain ⟨t, h⟩ := h
  exact ⟨_, h, ⟨t, rfl⟩⟩
theorem gstr {mg : Str → Option Value} {x z : Str} (h : ∃ t, mg x = some (.str z t)) : ∃ u, mg x = some u ∧ RelV (.str z) u := by
  obtain ⟨t, h⟩ := h
  exact ⟨_, h, ⟨t, rfl⟩⟩
theorem pe_gc {X : Cx} {x : Str} {pos : Pos} {v : V} (hg : Gl X x) (h : ∃ u, X.mg x = some u ∧ RelV v u) (hd : (x == ("__debug__" : Str)) = false := by decide) : PE X (.Name x pos) (tC v) := by
  obtain ⟨u, hm, r⟩ := h
  exact pe_glob hg hm r hd
theorem pj_nil {X : Cx} : PJ X [] [] := .nil
theorem pj_cons {X : Cx} {e : Expr} {t : TE} {es : List Expr} {ts : List TE} (h : PE X e t) (r : PJ X es ts) : PJ X (e :: es) (t :: ts) := .cons h r
end Ah

/-! numbers and keys: the mathematics -/
namespace Ah
open PySem PySem.Spec PyProof.Rows L2 He
def Kn.within (k : Kn) (a b : Int) : Bool := match k with
  | .int i => decide (a ≤ i) && decide (i ≤ b)
  | _ => false
/-- a sign of a key -/
def keySign (c : Nat) : Bool := (decide (97 ≤ c) && decide (c ≤ 122)) || (decide (48 ≤ c) && decide (c ≤ 57))
def isKeyL (l : List Nat) : Bool := decide (1 ≤ l.length) && decide (l.length ≤ 20) && l.all keySign
def Kn.isKey : Kn → Bool
  | .str z => isKeyL z.cps.toList
  | _ => false
/-- a text within the line -/
def Kn.small : Kn → Prop
  | .str z => z.length ≤ 1000000
  | _ => True
end Ah

/-! own rules: ==, != by an own __eq__, repr by an own __repr__, a call of an instance, text * int -/
namespace Ah
open PySem PySem.Spec PyProof.Rows L2 He
section
variable {X : Cx} {k j : Nat} {f C : Addr} {sp : Sp} {E : XK} {pins : List (Addr × Obj)} {σ : L2.St} {H : Hp} {s : Shared}
theorem looks_kn {x : V} {u : Value} {k : Kn} (I : Inv X pins σ H s) (r : RelV x u) (h : Is X.K H x k) (M : Model) : PySem.W.Looks M s.heap (typeOf u) k.ty := by
  obtain ⟨P, kx, p, _⟩ := kit_of I r h.tyx
  exact kx.ty M s.heap I.kIn p
/-- what == by an own __eq__ asks: x an instance of C, y of any kind, not of a class below C -/
def rEqO (K : Frag) (C : Addr) (sp : Sp) (E : XK) : R2 := fun x y H Q => ∃ a dx fs k, x = .ref a ∧ H a = some (.ins C dx fs) ∧ Is K H y k ∧ PySem.W.notFirst K C k.ty = true ∧ sp [x, y] H (fun z H' => ∃ b, z = .bl b ∧ Q (.bl b) H') E
theorem op_eqO (hm : Meth X.K C "__eq__" f) (F : FnB X.prog X.w X.K X.mg X.base k f sp) (hr : Rm j X.A) (hx : Passes (L2.CX X.prog X.w) X E) (hk : k ≤ j := by decide) : OpR X (compareOp .Eq) (rEqO X.K C sp E) := by
  intro pins s σ H x y v u Q I rx ry h
  obtain ⟨a, dx, fs, kn, rfl, ha, hy, hn, q⟩ := h
  cases (show v = Value.ref a from rx)
  obtain ⟨mA, O, _⟩ := ins_get I.hok ha
  obtain ⟨od, J, _⟩ := O.look
  obtain ⟨m, hF⟩ := I.fr
  refine PySem.W.cmp_K (op := .Eq) (tb := kn.ty) (hu0 hr) hF I.ok.mod.kin J (looks_kn I ry hy _) hn hm.at_ hm.fn ?_
  refine wpAny_mono (wpAny_call (runB (us := [.ref a, u]) (vs := [.ref a, y]) F (hr.mono hk) I.env0 hx I (.cons rfl (.cons ry .nil)) q)) (fun w s' z => ?_) fun _ _ x => x
  obtain ⟨z', H', I', rz, b, eb, qz⟩ := z
  subst eb
  cases (show w = Value.bool b from rz)
  exact ⟨.bl b, H', I', rfl, qz⟩
/-- != by an own __eq__ -/
theorem ne_K {prog : Program} {w : World} {A : Around} {E : Value → Shared → Prop} {s : Shared} {K : Frag} {x C L f : Addr} {h₀ : Heap} {m : Str → Option Value} {ox : Obj} {od : Option Obj} {b tb : Value} {Q : Value → Shared → Prop}
    (hu : A.units + 1 < cLine) (F : Fr h₀ L s.heap m) (X₀ : K.In h₀) (I : PySem.W.InstAt s.heap x ox C od) (hb : PySem.W.Looks (model prog w) s.heap (typeOf b) tb) (hn : PySem.W.notFirst K C tb = true)
    (hne : PySem.W.findIn K (.ref C) "__ne__" = some (some (.builtin "object.__ne__"))) (hcl : PySem.W.excInitIn K C [.type "object"] "object.__new__" = true)
    (hs : PySem.W.findIn K (.ref C) "__eq__" = some (some (.ref f))) (hf : PySem.W.isFn K (.ref f) = true)
    (h : wpAny (model prog w) A.in1 (call (.ref f) [.ref x, b]) (fun v s' => ∃ c, v = .bool c ∧ Q (.bool (!c)) s') E s) : wpAny (model prog w) A (richCompare .NotEq (.ref x) b) Q E s := by
  have X := X₀.keeps F.keep
  have one : wpAny (model prog w) A (tryCompare (.ref x) "__ne__" b) (fun r s' => ∃ v, r = some v ∧ Q v s') E s := by
    unfold tryCompare
    refine wpAny_bind (m := callSpecialIfBound? (.ref x) "__ne__" [b]) ?_
    simp only [callSpecialIfBound?, bindSpecialIfBound?]
    refine wpAny_holding (wpAny_bind (wpAny_bind (wpAny_bind (I.type.here ((PySem.W.looks_findIn X hne).here ?_)))))
    refine wpAny_bind (wpAny_askSetting (wpAny_ite ?_))
    have bnd : bindSpecial (.builtin "object.__ne__") (.ref x) = pure (.builtin "object.__ne__", [.ref x]) := PySem.F.cmp_object.ne.bind _
    have fin : wpAny (model prog w) A (call (.builtin "object.__ne__") ([.ref x] ++ [b]) >>= fun v => pure (some v)) (fun r s' => wpAny (model prog w) A (match r with
        | some .notImplemented | none => pure none
        | some v => pure (some v)) (fun r s' => ∃ v, r = some v ∧ Q v s') E s') E s := by
      refine wpAny_bind (wpAny_call (codeAny_call_builtin PySem.F.cmp_object.ne.plain PySem.F.cmpEntry_ne ?_))
      obtain ⟨nm, N, qn, bs, bm, hdct, sn, sub, ab, col, dd, k0, k1, k2, k3, k5, hC, hbm⟩ := PySem.W.excInit_of X hcl
      have hob : bm.contains (.type "object") = true := by rw [hbm]; decide +kernel
      obtain ⟨hp, gg, dr, tk, os⟩ := s
      refine wpAny_check_slot_inst PySem.F.cmpKind_ne PySem.F.cmpSplit_ne (PySem.F.cmpArgs_ne _ _) hob I.at_ I.cls hC ?_
      unfold Builtin.«object.__ne__»
      repeat (first
        | with_reducible refine wpAny_cRoomFor hu ?_
        | (refine wpAny_bind (m := callSpecialIfBound? (.ref x) (Str.ofString "__eq__") [b])
            (PySem.W.ifBound_K X I hs hf (wpAny_mono h (fun r s' hr => by
              obtain ⟨c, rfl, hq⟩ := hr
              repeat (first | exact ⟨_, rfl, hq⟩ | exact wpAny_pure ⟨_, rfl, hq⟩ | exact wpAny_pure (wpAny_pure ⟨_, rfl, hq⟩) | exact wpAny_truthy_bool hq | (refine wpAny_bind (m := truthy (.bool _)) (wpAny_truthy_bool ?_)) | wp_step)) fun _ _ e => e)))
        | wp_step)
    split
    · simp only [bnd]
      exact wpAny_bind (wpAny_pure (wpAny_pure fin))
    · simp only [bnd]
      exact wpAny_tryCatch (wpAny_bind (wpAny_pure (wpAny_pure fin)))
  unfold richCompare
  simp only [oneThing_ref]
  refine wpAny_holding (wpAny_bind (wpAny_cRoomFor (Nat.lt_of_succ_lt hu) ?_))
  refine wpAny_bind (I.type.here (wpAny_bind (hb.here ?_)))
  split
  · rename_i q
    have e : PySem.W.subIn K tb (.ref C) = some false := by
      rcases Bool.or_eq_true_iff.mp hn with e | e
      · rw [beq_iff_eq.mp e] at q; simp at q
      · exact beq_iff_eq.mp e
    refine wpAny_bind ((PySem.W.looks_subIn X e).here ?_)
    simp only [Bool.false_eq_true, if_false]
    refine wpAny_bind (wpAny_mono one (fun r s' z => ?_) fun _ _ e => e)
    obtain ⟨v, rfl, hq⟩ := z
    exact wpAny_pure hq
  · refine wpAny_bind (wpAny_pure ?_)
    simp only [Bool.false_eq_true, if_false]
    refine wpAny_bind (wpAny_mono one (fun r s' z => ?_) fun _ _ e => e)
    obtain ⟨v, rfl, hq⟩ := z
    exact wpAny_pure hq
/-- the class has no __ne__ of its own -/
structure NoNe (K : Frag) (C : Addr) : Prop where
  ne : PySem.W.findIn K (.ref C) "__ne__" = some (some (.builtin "object.__ne__"))
  cl : PySem.W.excInitIn K C [.type "object"] "object.__new__" = true
def rNeO (K : Frag) (C : Addr) (sp : Sp) (E : XK) : R2 := fun x y H Q => ∃ a dx fs k, x = .ref a ∧ H a = some (.ins C dx fs) ∧ Is K H y k ∧ PySem.W.notFirst K C k.ty = true ∧ sp [x, y] H (fun z H' => ∃ b, z = .bl b ∧ Q (.bl (!b)) H') E
theorem op_neO (hm : Meth X.K C "__eq__" f) (hne : NoNe X.K C) (F : FnB X.prog X.w X.K X.mg X.base k f sp) (hr : Rm j X.A) (hx : Passes (L2.CX X.prog X.w) X E) (hk : k + 1 ≤ j := by decide) : OpR X (compareOp .NotEq) (rNeO X.K C sp E) := by
  intro pins s σ H x y v u Q I rx ry h
  obtain ⟨a, dx, fs, kn, rfl, ha, hy, hn, q⟩ := h
  cases (show v = Value.ref a from rx)
  obtain ⟨mA, O, _⟩ := ins_get I.hok ha
  obtain ⟨od, J, _⟩ := O.look
  obtain ⟨m, hF⟩ := I.fr
  have hr1 : Rm (k + 1) X.A := hr.mono hk
  refine ne_K (tb := kn.ty) hr.hu hF I.ok.mod.kin J (looks_kn I ry hy _) hn hne.ne hne.cl hm.at_ hm.fn ?_
  refine wpAny_mono (wpAny_call (runB (us := [.ref a, u]) (vs := [.ref a, y]) F hr1.in1 I.env0.in1 hx I (.cons rfl (.cons ry .nil)) q)) (fun w s' z => ?_) fun _ _ x => x
  obtain ⟨z', H', I', rz, b, eb, qz⟩ := z
  subst eb
  cases (show w = Value.bool b from rz)
  exact ⟨b, rfl, .bl (!b), H', I', rfl, qz⟩
/-- repr(x), x an instance of C with its own __repr__ -/
def rRepr (C : Addr) (sp : Sp) (E : XK) : List V → Hp → VK → Prop := fun xs H Q => ∃ a dx fs, xs = [.ref a] ∧ H a = some (.ins C dx fs) ∧ sp [.ref a] H (fun z H' => ∃ y, z = .str y ∧ Q (.str y) H') E
theorem call_reprO (hm : Meth X.K C "__repr__" f) (G : FnB X.prog X.w X.K X.mg X.base k f sp) (hr : Rm j X.A) (hx : Passes (L2.CX X.prog X.w) X E) (hk : k + 1 ≤ j := by decide) : CallR X (.builtin "repr") (rRepr C sp E) := by
  intro pins s σ H xs us Q I r h
  obtain ⟨a, dx, fs, rfl, ha, q⟩ := h
  obtain ⟨u, rfl, ru⟩ := r.one
  cases (show u = Value.ref a from ru)
  obtain ⟨mA, O, _⟩ := ins_get I.hok ha
  obtain ⟨od, J, _⟩ := O.look
  have hr1 : Rm (k + 1) X.A := hr.mono hk
  refine Calls.call_function_entry F.kind_repr F.plain_repr F.entry_repr (F.args_repr1 _) ?_
  unfold Builtin.«repr»
  refine wpAny_bind (m := oneArg "repr" _) (wpAny_pure ?_)
  refine wpAny_bind (wpAny_cRoomFor (by exact hr.hu) ?_)
  refine wpAny_bind (wpAny_bind (J.type.here ((PySem.W.looks_findIn I.kIn hm.at_).here ?_)))
  refine wpAny_bind (m := callSpecialIfBound? (.ref a) (Str.ofString "__repr__")) (PySem.W.ifBound_K I.kIn J hm.at_ hm.fn (wpAny_mono (wpAny_call (runB (us := [.ref a]) (vs := [.ref a]) G hr1.in1 I.env0.in1 hx I (.cons rfl .nil) q)) (fun w s' z => ?_) fun _ _ x => x))
  obtain ⟨z', H', I', rz, y, ey, qz⟩ := z
  subst ey
  obtain ⟨t, e⟩ := (show ∃ t, w = Value.str y t from rz)
  subst e
  refine wpAny_bind (wpAny_isInstance (T := "str") (b := true) rfl isSubtype_str_str ?_)
  exact wpAny_pure ⟨_, rfl, .str y, H', I', ⟨t, rfl⟩, qz⟩
/-- f(e, ..), f a slot that holds an instance of C with its own __call__ -/
def tCoF (C : Addr) (sp : Sp) (E : XK) (tf : TE) (t : TA) : TE := fun σ H Q => tf σ H fun y H1 => ∃ a, y = V.ref a ∧ t σ H1 fun vs H2 => (∃ dx fs, H2 a = some (.ins C dx fs)) ∧ sp (V.ref a :: vs) H2 Q E
theorem pe_coF {fe e : Expr} {es : List Expr} {tf : TE} {t : TA} {pos : Pos} (hf : PE X fe tf) (hm : Meth X.K C "__call__" f) (hi : PySem.W.fnIn X.K f = true) (G : FnB X.prog X.w X.K X.mg X.base k f sp) (hr : Rm j X.A) (hx : Passes (L2.CX X.prog X.w) X E) (ha : PA X (e :: es) t) (hk : k ≤ j := by decide)
    (ht : eval (.Call fe (e :: es) [] pos) X.env = (do callWith pos (← eval fe X.env) [] (backTo pos (starEach (e :: es) X.env)) (backToKw pos (keywordEach [] X.env))) := by rfl)
    (he : starEach (e :: es) X.env = (false, eval e X.env) :: starEach es X.env := by rfl) (hpl : (backTo pos (starEach es X.env)).any (·.1) = false := by rfl) : PE X (.Call fe (e :: es) [] pos) (tCoF C sp E tf t) := by
  refine ⟨fun pins s σ H Q I h => ?_⟩
  refine Call_ (thn (hf.run pins s σ H _ I h) fun u s1 ⟨y, H1, I1, ry, a, ey, q⟩ => ?_) ht
  subst ey
  cases (show u = Value.ref a from ry)
  refine StX.callO_with (thn (ha.run pos pins s1 σ H1 _ I1 q) fun us s2 ⟨vs, H2, I2, r, ⟨dx, fs, hi2⟩, q2⟩ => ?_) he hpl
  obtain ⟨ox, od, J, hd⟩ := StX.insC_at (C := C) I2 (.inr ⟨dx, fs, hi2⟩)
  exact ⟨⟨C, ox, od, J, hd⟩, wpAny_call (PySem.W.kco_code I2.kIn J hd hm.at_ hm.fn hi (runB (us := .ref a :: us) (vs := .ref a :: vs) G (hr.mono hk) I2.env0 hx I2 (.cons rfl r) q2))⟩
/-- text * int -/
def rMulS : R2 := fun x y H Q => ∃ (z : Str) (n : Nat), x = .str z ∧ y = .int n ∧ z.length * n ≤ 1000000 ∧ z.length ≤ 1000000 ∧ n ≤ 1000000 ∧ Q (.str (Txt.mul z n)) H
theorem op_rep_str : OpR X (binaryOp .Mult) rMulS := by
  intro pins s σ H x y v u Q I rx ry h
  obtain ⟨z, n, rfl, rfl, h1, h2, h3, q⟩ := h
  obtain ⟨t, e⟩ := (show ∃ t, v = Value.str z t from rx)
  obtain ⟨t', e'⟩ := (show ∃ t, u = Value.int n t from ry)
  subst e
  subst e'
  refine SB.mul ⟨?_, ?_, ?_⟩ fun t' k => ⟨.str _, H, I.tok _, ⟨_, rfl⟩, q⟩
  · have a1 : ¬ ((n : Int) < -(2 ^ 63 : Int)) := by omega
    have a2 : ¬ ((n : Int) ≥ 2 ^ 63) := by omega
    rw [decide_eq_false a1, decide_eq_false a2]
    rfl
  · intro _ _ hgt
    have h4 : (1000000 : Int) ≤ (2 ^ 63 - 1) / (n : Int) := by
      refine Int.le_ediv_of_mul_le (by omega) ?_
      have : (1000000 : Int) * n ≤ 1000000 * 1000000 := Int.mul_le_mul_of_nonneg_left (by omega) (by omega)
      omega
    omega
  · intro _ _
    show decide (z.length * (n : Int).toNat > sizeLine) = false
    rw [Int.toNat_natCast]
    exact decide_eq_false (by rw [sizeLine_eq]; omega)
end
end Ah

/-! more facts for the head -/
namespace Ah
open PySem PySem.Spec PyProof.Rows L2 He
def all7 : List String := ["NoneType", "int", "bool", "str", "list", "tuple", "dict"]
def ownCB (C : Str) (K : Frag) : Bool :=
  eqO (PySem.W.findIn K (.ref (ga K C)) "__class__") (some (some (.builtin "object.__class__"))) &&
  (eqO (PySem.W.specialIn K (.builtin "object.__class__") "__get__") (some (some (.builtin "getset_descriptor.__get__"))) &&
  (decide (PySem.W.takesIn K (.builtin "object.__class__") = some true) && (decide (PySem.W.mroIn K (ga K C) (.type "object") = some true) &&
  (bTys.all fun T => decide (PySem.W.kitOne K (.ref (ga K C)) (.type T) = some false)))))
theorem ownC_ok {C : Str} {K : Frag} (c : Cls K (ga K C)) (h : ownCB C K = true) : OwnC K (ga K C) := by
  unfold ownCB at h
  obtain ⟨h1, h⟩ := ba h
  obtain ⟨h2, h⟩ := ba h
  obtain ⟨h3, h⟩ := ba h
  obtain ⟨h4, h⟩ := ba h
  exact ⟨c, eqO_ok h1, eqO_ok h2, of_decide_eq_true h3, of_decide_eq_true h4, fun T hT => of_decide_eq_true (List.all_eq_true.mp h T hT)⟩
def ownKB (C : Str) (K : Frag) : Bool := all7.all fun T => decide (PySem.W.kitOne K (.type T) (.ref (ga K C)) = some false)
theorem ownK_ok {C : Str} {K : Frag} (h : ownKB C K = true) : OwnK K (ga K C) := ⟨fun T hT => of_decide_eq_true (List.all_eq_true.mp h T hT)⟩
def firstB (C : Str) (K : Frag) : Bool := all7.all fun T => PySem.W.notFirst K (ga K C) (.type T)
theorem first_ok {C : Str} {K : Frag} (h : firstB C K = true) : ∀ T ∈ all7, PySem.W.notFirst K (ga K C) (.type T) = true := fun T hT => List.all_eq_true.mp h T hT
def noNeB (C : Str) (K : Frag) : Bool := eqO (PySem.W.findIn K (.ref (ga K C)) "__ne__") (some (some (.builtin "object.__ne__"))) && PySem.W.excInitIn K (ga K C) [.type "object"] "object.__new__"
theorem noNe_ok {C : Str} {K : Frag} (h : noNeB C K = true) : NoNe K (ga K C) := by
  obtain ⟨h1, h2⟩ := ba h
  exact ⟨eqO_ok h1, h2⟩
def fnInB (C m : Str) (K : Frag) : Bool := PySem.W.fnIn K (ma K (ga K C) m)
/-- a value that is no instance, or one of the class C itself, does not come first in a comparison with an instance of C -/
theorem first_of {K : Frag} {H : Hp} {C : Addr} {x : V} {k : Kn} (hf : ∀ T ∈ all7, PySem.W.notFirst K C (.type T) = true) (h : Is K H x k) (hC : ∀ a D, k = .ins a D → D = C) : PySem.W.notFirst K C k.ty = true := by
  cases h with
  | @ins a D dx fs e c =>
    cases hC a D rfl
    simp [Kn.ty, PySem.W.notFirst]
  | int i => exact hf _ (by decide)
  | bl i => exact hf _ (by decide)
  | str i => exact hf _ (by decide)
  | non => exact hf _ (by decide)
  | lst i => exact hf _ (by decide)
  | tup i => exact hf _ (by decide)
  | dct i => exact hf _ (by decide)
/-! heaps -/
/-- all but a stands as it stood -/
def Ex (a : Addr) (H H' : Hp) : Prop := ∀ b o, b ≠ a → H b = some o → H' b = some o
theorem Ex.refl {a : Addr} {H : Hp} : Ex a H H := fun _ _ _ h => h
theorem Ex.of_same {a : Addr} {H H' : Hp} (s : Same H H') : Ex a H H' := fun b o _ h => s b o h
theorem Ex.trans {a : Addr} {H H1 H2 : Hp} (x : Ex a H H1) (y : Ex a H1 H2) : Ex a H H2 := fun b o n h => y b o n (x b o n h)
theorem Ex.upd {a : Addr} {H H' : Hp} {o : HO} (x : Ex a H H') : Ex a H (L2.upd H' a o) := fun b o' n h => by
  rw [upd_ne n]
  exact x b o' n h
theorem Ex.new {a p : Addr} {H H' : Hp} {o : HO} (x : Ex a H H') (hp : H' p = none) : Ex a H (L2.upd H' p o) := fun b o' n h => upd_keep (x b o' n h) hp
/-- a new place stays new behind -/
theorem Ex.same_free {a : Addr} {H H1 H2 : Hp} (s : Same H H1) (ha : H a = none) (x : Ex a H1 H2) : Same H H2 := fun b o h => x b o (ne_of_none h ha) (s b o h)
end Ah

/-! comprehensions and loops -/
namespace Ah
open PySem PySem.Spec PyProof.Rows L2 He
theorem range_map_succ {α : Type} (f : Nat → α) (n : Nat) : (List.range (n + 1)).map f = (List.range n).map f ++ [f n] := by
  rw [List.range_succ, List.map_append]
  rfl
/-- a comprehension whose element hands back a value and changes nothing that stood: [f 0, .., f (n - 1)] -/
theorem lc_pure {J : It} {n : Nat} {G : Hp → Prop} {Y : Nat → Hp → V → Hp → Prop} (w : Walk J n G Y) {k : Nat} {te : TE} {vs : List Nat} {σ : L2.St} {H1 : Hp} {Qd : Hp → Prop} {D : Addr} (f it : Nat → V) (hn : n ≤ 1000000) (hD : H1 D = none)
    (hG : ∀ H', Same H1 H' → G H') (hY : ∀ i H x H', i < n → Y i H x H' → H' = H ∧ x = it i) (hw : ∀ i, wipe ((wipe σ vs).set k (some (it i))) vs = wipe σ vs)
    (he : ∀ i, i < n → ∀ H' Q', Same H1 H' → (∀ H'', Same H' H'' → Q' (f i) H'') → te ((wipe σ vs).set k (some (it i))) H' Q')
    (hq : ∀ H', Same H1 H' → H' D = some (.lst ((List.range n).map f)) → Qd H') :
    ∃ W : Nat → Nat → Hp → Prop, (∃ m, W 0 m (upd H1 D (.lst []))) ∧ ∀ i m H, W i m H →
      (J.stop i H ∧ Qd H) ∨ (J.go i H ∧ ∃ Nx : Hp → Prop, (∀ H', Nx H' → ∃ m', m' < m ∧ W (i + 1) m' H') ∧ ∀ x H', J.yld i H x H' → gName k x (wipe σ vs) H' fun σ2 H2 => wipe σ2 vs = wipe σ vs ∧ tYes σ2 H2 fun b H3 =>
        if b = true then te σ2 H3 fun y H4 => ∃ acc, H4 D = some (.lst acc) ∧ acc.length < sizeLine ∧ Nx (upd H4 D (.lst (acc ++ [y]))) else Nx H3) := by
  refine lc_it w (fun i H' => Same H1 H' ∧ H' D = some (.lst ((List.range i).map f))) ⟨fun b o e => upd_keep e hD, upd_same⟩ (fun i H' _ p => hG H' p.1) ?_ fun H' p => hq H' p.1 p.2
  intro i x H H' hi p y
  obtain ⟨rfl, rfl⟩ := hY i H x H' hi y
  refine ⟨hw i, ?_⟩
  dsimp only [tYes]
  rw [if_pos rfl]
  refine he i hi _ _ p.1 fun H'' s => ⟨_, s _ _ p.2, ?_, ?_, ?_⟩
  · rw [List.length_map, List.length_range, sizeLine_eq]
    omega
  · intro b o e
    rw [upd_ne (ne_of_none e hD)]
    exact s b o (p.1 b o e)
  · rw [upd_same, range_map_succ]
theorem yStr {z : Str} (i : Nat) (H : Hp) (x : V) (H' : Hp) (y : H' = H ∧ ∃ c, z.cps[i]? = some c ∧ x = .str ⟨#[c]⟩) : H' = H ∧ x = .str ⟨#[z.cps.toList.getD i 0]⟩ := by
  obtain ⟨e, c, hc, rfl⟩ := y
  refine ⟨e, ?_⟩
  have : z.cps.toList[i]? = some c := by simpa using hc
  rw [List.getD_eq_getElem?_getD, this]
  rfl
theorem map_getD_range {α β : Type} (l : List α) (d : α) (g : α → β) : (List.range l.length).map (fun i => g (l.getD i d)) = l.map g := by
  apply List.ext_getElem?
  intro i
  rw [List.getElem?_map, List.getElem?_map]
  by_cases h : i < l.length
  · rw [List.getElem?_range h]
    simp [List.getD_eq_getElem?_getD, h]
  · simp [h]
/-- a new list of values: the walk over a text -/
theorem cps_len (z : Str) : z.cps.size = z.cps.toList.length := by simp
end Ah
namespace Ah
open PySem PySem.Spec PyProof.Rows L2 He
/-! keys -/
def chars : Str := "abcdefghijklmnopqrstuvwxyz0123456789"
def charsL : List Nat := [97, 98, 99, 100, 101, 102, 103, 104, 105, 106, 107, 108, 109, 110, 111, 112, 113, 114, 115, 116, 117, 118, 119, 120, 121, 122, 48, 49, 50, 51, 52, 53, 54, 55, 56, 57]
theorem chars_eq : chars.cps.toList = charsL := by decide +kernel
theorem charsL_small : ∀ c, c < 128 → decide (c ∈ charsL) = keySign c := by decide +kernel
theorem charsL_max : ∀ c ∈ charsL, c < 128 := by decide +kernel
theorem chars_mem (c : Nat) : decide (c ∈ chars.cps.toList) = keySign c := by
  rw [chars_eq]
  by_cases h : c < 128
  · exact charsL_small c h
  · rw [decide_eq_false fun z => h (charsL_max c z)]
    unfold keySign
    rw [decide_eq_false (by omega : ¬ c ≤ 122), decide_eq_false (by omega : ¬ c ≤ 57)]
    simp
theorem str_len (z : Str) : z.length = z.cps.toList.length := by simp [Str.length]
/-- the mix of a key -/
def mixL (b n : Int) (l : List Nat) : Int := l.foldl (fun (h : Int) (c : Nat) => (h * b + (c : Int)) % 2 ^ n.toNat) 0
theorem mixL_snoc (b n : Int) (l : List Nat) (c : Nat) : mixL b n (l ++ [c]) = (mixL b n l * b + (c : Int)) % 2 ^ n.toNat := by
  unfold mixL
  rw [List.foldl_append]
  rfl
theorem pow_pos2 (n : Nat) : (0 : Int) < 2 ^ n := by
  have h : (0 : Int) < ((2 ^ n : Nat) : Int) := Int.natCast_pos.mpr (Nat.two_pow_pos n)
  rw [Int.natCast_pow] at h
  exact h
theorem mixL_range (b n : Int) (l : List Nat) : 0 ≤ mixL b n l ∧ mixL b n l < 2 ^ n.toNat := by
  rcases List.eq_nil_or_concat l with h | ⟨m, c, h⟩
  · subst h
    exact ⟨Int.le_refl 0, pow_pos2 _⟩
  · rw [List.concat_eq_append] at h
    subst h
    rw [mixL_snoc]
    exact ⟨Int.emod_nonneg _ (Int.ne_of_gt (pow_pos2 _)), Int.emod_lt_of_pos _ (pow_pos2 _)⟩
theorem pow32 {n : Int} (h : n ≤ 32) : (2 : Int) ^ n.toNat ≤ 4294967296 := by
  have h1 : n.toNat ≤ 32 := by omega
  have h2 : (2 ^ n.toNat : Nat) ≤ 2 ^ 32 := Nat.pow_le_pow_right (by decide) h1
  have h3 : ((2 ^ n.toNat : Nat) : Int) ≤ ((2 ^ 32 : Nat) : Int) := Int.ofNat_le.mpr h2
  rw [Int.natCast_pow] at h3
  exact h3
theorem take_more {α : Type} {l : List α} {i : Nat} {x : α} (h : l[i]? = some x) : l.take (i + 1) = l.take i ++ [x] := by
  rw [List.take_succ, h]
  rfl
theorem key_small {z : Str} (h : isKeyL z.cps.toList = true) : (Kn.str z).small := by
  unfold isKeyL at h
  show z.length ≤ 1000000
  rw [str_len]
  simp at h
  rw [Array.length_toList]
  omega
end Ah

/-! fields, pools -/
namespace Ah
open PySem PySem.Spec PyProof.Rows L2 He
theorem look0 {f : Str} {v : V} {r : List (Str × V)} : List.lookup f ((f, v) :: r) = some v := by simp [List.lookup]
theorem lookS {f g : Str} {w : V} {r : List (Str × V)} (h : f ≠ g) : List.lookup f ((g, w) :: r) = List.lookup f r := by
  have e : (f == g) = false := by simpa using h
  simp [List.lookup, e]
theorem putF0 {f : Str} {v : V} : putF f v [] = [(f, v)] := rfl
theorem putF_hit {f : Str} {v w : V} {r : List (Str × V)} : putF f v ((f, w) :: r) = (f, v) :: r := by
  show (if f = f then _ else _) = _
  rw [if_pos rfl]
theorem putFS {f g : Str} {v w : V} {r : List (Str × V)} (h : g ≠ f) : putF f v ((g, w) :: r) = (g, w) :: putF f v r := by
  show (if g = f then _ else _) = _
  rw [if_neg h]
end Ah
namespace Ah
open PySem PySem.Spec PyProof.Rows L2 He
theorem ixL {K : Frag} {H : Hp} {a : Addr} {xs : List V} {i : Int} {v : V} {Q : VK} (h : SqL K H a xs) (e : atI xs i = some v) (q : Q v H) : rIxL K (.ref a) (.int i) H Q := ⟨a, xs, i, v, rfl, rfl, h, e, q⟩
theorem ixT {K : Frag} {H : Hp} {a : Addr} {xs : List V} {i : Int} {v : V} {Q : VK} (h : SqT K H a xs) (e : atI xs i = some v) (q : Q v H) : rIxT K (.ref a) (.int i) H Q := ⟨a, xs, i, v, rfl, rfl, h, e, q⟩
theorem setL {H : Hp} {a : Addr} {xs : List V} {i : Int} {j : Nat} {v : V} {Q : Hp → Prop} (h : H a = some (.lst xs)) (e : ixN xs.length i = some j) (q : Q (upd H a (.lst (xs.set j v)))) : rSetL (.ref a) (.int i) v H Q := ⟨a, xs, i, j, rfl, rfl, h, e, q⟩
theorem head_int (l : List Int) : ∃ i, atI (l.map V.int ++ [V.int 0]) 0 = some (V.int i) := by
  cases l with
  | nil => exact ⟨0, rfl⟩
  | cons x r =>
    refine ⟨x, ?_⟩
    unfold atI
    have e : ixN ((List.map V.int (x :: r) ++ [V.int 0]).length) 0 = some 0 := by
      simp [ixN]
      omega
    rw [e]
    rfl
theorem cutV_int (l : List Int) (lo hi : Option Int) : ∃ l' : List Int, cutV (l.map V.int) lo hi = l'.map V.int ∧ l'.length ≤ l.length := by
  refine ⟨(l.drop (HT.sIx (l.map V.int).length 0 lo)).take (HT.sIx (l.map V.int).length (l.map V.int).length hi - HT.sIx (l.map V.int).length 0 lo), ?_, ?_⟩
  · unfold cutV
    rw [List.map_take, List.map_drop]
  · rw [List.length_take, List.length_drop]
    omega
end Ah

/-! data compared -/
namespace Ah
open PySem PySem.Spec PyProof.Rows L2 He
theorem neD_same {K : Frag} {H : Hp} {x y : V} {Q : VK} (d : PyData) (hx : Dp K H x d) (hy : Dp K H y d) (hs : SeqAt.shaped d = true) (q : Q (.bl false) H) : rNeD K x y H Q := by
  refine ⟨d, d, hx, hy, hs, hs, ?_⟩
  rw [SeqAt.eqv_refl d (SeqAt.canLay_of_shaped hs)]
  exact q
theorem eqD_same {K : Frag} {H : Hp} {x y : V} {Q : VK} (d : PyData) (hx : Dp K H x d) (hy : Dp K H y d) (hs : SeqAt.shaped d = true) (q : Q (.bl true) H) : rEqD K x y H Q := by
  refine ⟨d, d, hx, hy, hs, hs, ?_⟩
  rw [SeqAt.eqv_refl d (SeqAt.canLay_of_shaped hs)]
  exact q
theorem dpInts {K : Frag} {H : Hp} : ∀ ns : List Int, DpAll K H (ns.map V.int) (ns.map PyData.int)
  | [] => .nil
  | n :: r => .cons (.int n) (dpInts r)
theorem shaped_ints (ns : List Int) : SeqAt.shaped (.list (ns.map PyData.int)) = true := by
  have h1 : ∀ ns : List Int, PyData.canLayAll0 (ns.map PyData.int) = true := by
    intro ns
    induction ns with
    | nil => rfl
    | cons n r ih => exact Bool.and_eq_true_iff.mpr ⟨rfl, ih⟩
  have h2 : ∀ ns : List Int, PyData.depthAll (ns.map PyData.int) = 0 := by
    intro ns
    induction ns with
    | nil => rfl
    | cons n r ih =>
      show max 0 (PyData.depthAll (r.map PyData.int)) = 0
      rw [ih]
      rfl
  refine Bool.and_eq_true_iff.mpr ⟨h1 ns, decide_eq_true ?_⟩
  show PyData.depthAll (ns.map PyData.int) + 1 ≤ 64
  rw [h2]
  decide
/-- two lists of the same ints -/
theorem neInts {K : Frag} {H : Hp} {p r : Addr} {Q : VK} (ns : List Int) (h1 : H p = some (.lst (ns.map V.int))) (h2 : H r = some (.lst (ns.map V.int))) (q : Q (.bl false) H) : rNeD K (.ref p) (.ref r) H Q :=
  neD_same (.list (ns.map PyData.int)) (.lst (SqL.of h1) (dpInts ns)) (.lst (SqL.of h2) (dpInts ns)) (shaped_ints ns) q
theorem strOk_key {z : Str} (h : isKeyL z.cps.toList = true) : PyData.strOk z = true := by
  unfold isKeyL at h
  have h3 := (Bool.and_eq_true_iff.mp h).2
  unfold PyData.strOk
  rw [← Array.all_toList]
  refine List.all_eq_true.mpr fun c hc => ?_
  have := List.all_eq_true.mp h3 c hc
  unfold keySign at this
  simp at this
  exact decide_eq_true (by omega)
/-- two tuples of one int and one text -/
theorem nePlace {K : Frag} {H : Hp} {p r : Addr} {Q : VK} {i : Int} {z : Str} (hz : PyData.strOk z = true) (h1 : H p = some (.tup [.int i, .str z])) (h2 : H r = some (.tup [.int i, .str z])) (q : Q (.bl false) H) : rNeD K (.ref p) (.ref r) H Q := by
  refine neD_same (.tuple [.int i, .str z]) (.tup (SqT.of h1) (.cons (.int i) (.cons (.str z) .nil))) (.tup (SqT.of h2) (.cons (.int i) (.cons (.str z) .nil))) ?_ q
  refine Bool.and_eq_true_iff.mpr ⟨?_, decide_eq_true (show max 0 (max 0 0) + 1 ≤ 64 by decide)⟩
  show (true && (PyData.strOk z && true)) = true
  rw [hz]
  rfl
end Ah
namespace Ah
open PySem PySem.Spec PyProof.Rows L2 He
theorem iteF' {c : Bool} {A B : Prop} (h : c = false) (hb : B) : if c = true then A else B := by
  rw [h]
  exact iteF hb
theorem iteT' {c : Bool} {A B : Prop} (h : c = true) (ha : A) : if c = true then A else B := by
  rw [h]
  exact iteT ha
/-- a pool of a law: a list of two ints -/
def PoolAt (H : Hp) (a : Addr) : Prop := ∃ p q : Int, H a = some (.lst [.int p, .int q])
theorem PoolAt.same {H H' : Hp} {a : Addr} (h : PoolAt H a) (s : Same H H') : PoolAt H' a := by
  obtain ⟨p, q, h⟩ := h
  exact ⟨p, q, s _ _ h⟩
theorem PoolAt.ne {H : Hp} {a b : Addr} (h : PoolAt H a) (hb : H b = none) : b ≠ a := by
  obtain ⟨p, q, h⟩ := h
  exact (ne_of_none h hb).symm
theorem tl_app (x y : Str) : (x ++ y).cps.toList = x.cps.toList ++ y.cps.toList := TL.tl_append x y
theorem notKey_snoc {x y : Str} {c : Nat} (h : y.cps.toList = [c]) (hc : keySign c = false) : isKeyL (x ++ y).cps.toList = false := by
  rw [tl_app, h]
  unfold isKeyL
  rw [List.all_append]
  have : ([c].all keySign) = false := by simp [hc]
  rw [this]
  simp
theorem notKey_long {x y : Str} (h : 20 ≤ y.cps.toList.length) (hx : 1 ≤ x.cps.toList.length) : isKeyL (x ++ y).cps.toList = false := by
  rw [tl_app]
  unfold isKeyL
  rw [decide_eq_false (p := (x.cps.toList ++ y.cps.toList).length ≤ 20) (by rw [List.length_append]; omega)]
  simp
theorem key_len {l : List Nat} (h : isKeyL l = true) : 1 ≤ l.length ∧ l.length ≤ 20 := by
  unfold isKeyL at h
  simp at h
  omega
theorem slice_to_len (z : Str) (n : Nat) : (Txt.slice z none (some (n : Int))).length ≤ z.length := by
  have e : z = SX.S z.cps.toList := (SX.S_tl z).symm
  rw [e, SX.slice_to (Int.natCast_nonneg n), SX.S_len, SX.S_len, List.length_take]
  omega
theorem str_small {z : Str} {n : Nat} (h : z.length ≤ n) (hn : n ≤ 1000000) : (Kn.str z).small := Nat.le_trans h hn
end Ah

/-! own exceptions over one of four built-in ones -/
namespace Ah
open PySem PySem.Spec PyProof.Rows L2 He
inductive EB where
  | ve | le | re | oe
def EB.nm : EB → String
  | .ve => "ValueError" | .le => "LookupError" | .re => "RuntimeError" | .oe => "OverflowError"
def EB.nw : EB → String
  | .ve => "ValueError.__new__" | .le => "LookupError.__new__" | .re => "RuntimeError.__new__" | .oe => "OverflowError.__new__"
def EB.it : EB → String
  | .ve => "ValueError.__init__" | .le => "LookupError.__init__" | .re => "RuntimeError.__init__" | .oe => "OverflowError.__init__"
def EB.tl : EB → List Value
  | .ve => [.type "ValueError", .type "Exception", .type "BaseException", .type "object"]
  | .le => [.type "LookupError", .type "Exception", .type "BaseException", .type "object"]
  | .re => [.type "RuntimeError", .type "Exception", .type "BaseException", .type "object"]
  | .oe => [.type "OverflowError", .type "ArithmeticError", .type "Exception", .type "BaseException", .type "object"]
theorem EB.base (b : EB) : ExcBaseFacts b.nm b.nw b.it b.tl := by
  cases b
  · exact F.excBase_ValueError
  · exact F.excBase_LookupError
  · exact F.excBase_RuntimeError
  · exact F.excBase_OverflowError
theorem EB.store (b : EB) : StoreFacts b.nm b.tl "object.__setattr__" "object" := by
  cases b
  · exact F.store_ValueError
  · exact F.store_LookupError
  · exact F.store_RuntimeError
  · exact F.store_OverflowError
/-- what the written part says of such a class -/
structure OexG (K : Frag) (C : Addr) : Prop where
  cls : ∃ (b : EB) (nm q : Str) (N : Addr) (bs : List Value) (sn : List Str) (sub : List Value) (ab : Bool) (col : Option Bool) (dd : Option Addr) (k0 k1 k2 k3 k5 : Option Value), K.lookup C = some (excClassObj nm q C N bs b.tl true sn sub ab col dd k0 k1 k2 k3 k5 b.nw)
  sa : PySem.W.findIn K (.ref C) "__setattr__" = some (some (.builtin "object.__setattr__"))
  exC : PySem.W.subIn K (.ref C) (.type "BaseException") = some true
  tyC : PySem.W.typeIn K (.ref C) = some (.type "type")
  kC : PySem.W.keepIn K (.ref C) = true
theorem tail_self (b : EB) : PySem.W.excTail b.tl b.tl = true := by cases b <;> decide +kernel
section
variable {K : Frag} {C : Addr}
theorem OexG.over (T : OexG K C) : ∃ b : EB, PySem.W.excOver K C b.tl = true ∧ ∃ cd, PySem.W.clsIn K C = some cd ∧ cd.hasDict = true := by
  obtain ⟨b, nm, q, N, bs, sn, sub, ab, col, dd, k0, k1, k2, k3, k5, hC⟩ := T.cls
  have hcl : PySem.W.clsIn K C = some { name := nm, bases := bs, mro := .ref C :: b.tl, ns := N, qualname := q, hasDict := true, slotNames := sn, subclasses := sub, abstract := ab, collection := col, hasDel := false } := by
    unfold PySem.W.clsIn
    rw [hC] <;> rfl
  refine ⟨b, ?_, _, hcl, rfl⟩
  unfold PySem.W.excOver
  rw [hcl]
  show (C == C && PySem.W.excTail b.tl b.tl) = true
  rw [tail_self b]
  simp
end
section
variable {prog : Program} {w : World} {A : Around} {hp : Heap} {g : Array GenState} {d : Drawn} {t : Nat} {os : OsState} {R : Result → Shared → Prop}
/-- the first field: the dict is laid -/
theorem osaN {K : Frag} {name : Str} {tk : Tok} {v : Value} {x C : Addr} {fv : Array Value} (T : OexG K C) (X : K.In hp) (hx : hp.get? x = some { cls := .ref C, data := .fields fv }) (ha : PySem.W.findIn K (.ref C) name = some none)
    (hq : ∀ h' tk' dx, (∀ b o, b ≠ x → hp.get? b = some o → h'.get? b = some o) → hp.objs.size ≤ dx → dx ≠ x → h'.get? x = some { cls := .ref C, dict := some dx, data := .fields fv } →
      h'.Ns1 dx (fun y => if y = name then some v else none) → R (.ok (.ret .none)) ⟨h', g, d, tk', os⟩) :
    codeAny (model prog w) A (.call (.builtin "object.__setattr__") ⟨[.ref x, .str name tk, v], []⟩) R ⟨hp, g, d, t, os⟩ := by
  obtain ⟨b, ho, cd, hcd, hh⟩ := T.over
  have hxs : x ≠ hp.objs.size := Nat.ne_of_lt (Heap.lt_size hx)
  refine PySem.W.osa_openX (s := ⟨hp, g, d, t, os⟩) (od := none) (r := none) b.store X ⟨hx, rfl, rfl, trivial⟩ ho (by unfold PySem.W.takerIn; rw [ha]; rfl) fun bb => ?_
  have hcls : PySem.W.Looks (model prog w) hp (classData C) cd := PySem.W.looks_clsIn X hcd
  dsimp only
  obtain ⟨nm, bs, mro, ns, qn, hd, sn, sb, ab, col, del⟩ := cd
  dsimp only at hh
  subst hh
  unfold PySem.Builtin.ObjectAttr.storeInOwnDict PySem.Builtin.ObjectAttr.ownDictForStores
  repeat (first | with_reducible refine PySem.HandSPX.store_in_new ?_ ?_ | with_reducible refine wpAny_loadPart_at hx ?_ | with_reducible refine hcls.at ?_ | wp_step)
  · exact ⟨_, #[], _, (Heap.get?_update_ne _ _ _ _ hxs.symm).trans (Heap.get?_push_at rfl rfl), rfl, fun e he => absurd he (by simp), fun _ => rfl⟩
  · intro h' tk' hn' hs
    have hx₁ : (hp.push { cls := .type "dict", data := .dict #[] }).get? x = some { cls := .ref C, data := .fields fv } := Heap.get?_push_of_some _ hx
    refine hq h' tk' hp.objs.size (fun b o hb ho => ?_) (Nat.le_refl _) hxs.symm ?_ hn'
    · exact (hs.2 b (Nat.ne_of_lt (Heap.lt_size ho))).trans ((Heap.get?_update_ne _ _ _ _ hb).trans (Heap.get?_push_of_some _ ho))
    · exact (hs.2 x hxs).trans (Heap.get?_update_self _ hx₁ rfl)
/-- a further field -/
theorem osaO {K : Frag} {name : Str} {tk : Tok} {v : Value} {x C dx : Addr} {fv : Array Value} {m0 : Str → Option Value} {nl : List Str} (T : OexG K C)
    (X : K.In hp) (hx : hp.get? x = some { cls := .ref C, dict := some dx, data := .fields fv }) (hns : hp.Ns1 dx m0) (hw : PySem.Within m0 nl) (hz : nl.length ≤ 1000) (ha : PySem.W.findIn K (.ref C) name = some none)
    (hq : ∀ h' tk', (∀ b o, b ≠ dx → hp.get? b = some o → h'.get? b = some o) → h'.Ns1 dx (fun y => if y = name then some v else m0 y) → R (.ok (.ret .none)) ⟨h', g, d, tk', os⟩) :
    codeAny (model prog w) A (.call (.builtin "object.__setattr__") ⟨[.ref x, .str name tk, v], []⟩) R ⟨hp, g, d, t, os⟩ := by
  obtain ⟨oD, esD, epD, hoD, hdD, _⟩ := hns.count hw
  obtain ⟨b, ho, cd, hcd, hh⟩ := T.over
  refine PySem.W.osa_openX (s := ⟨hp, g, d, t, os⟩) (od := some oD) (r := none) b.store X ⟨hx, rfl, rfl, hoD⟩ ho (by unfold PySem.W.takerIn; rw [ha]; rfl) fun bb => ?_
  have hcls : PySem.W.Looks (model prog w) hp (classData C) cd := PySem.W.looks_clsIn X hcd
  dsimp only
  obtain ⟨nm, bs, mro, ns, qn, hd, sn, sb, ab, col, del⟩ := cd
  dsimp only at hh
  subst hh
  unfold PySem.Builtin.ObjectAttr.storeInOwnDict PySem.Builtin.ObjectAttr.ownDictForStores
  repeat (first | with_reducible refine PySem.OEX.store_in_old hns hw hz ?_ | with_reducible refine wpAny_loadPart_at hx ?_ | with_reducible refine hcls.at ?_ | wp_step)
  intro h' tk' hn' hs
  exact hq h' tk' (fun b o hb ho => (hs.2 b hb).trans ho) hn'
end
section
variable {X : Cx} {pins : List (Addr × Obj)} {σ : L2.St} {H : Hp} {s : Shared} {a C dx : Addr} {f : Str} {y : V} {u : Value} {fs : List (Str × V)} {Q : Unit → Shared → Prop} {E : Value → Shared → Prop} {A : Around}
theorem stN (T : OexG X.K C) (I : L2.Inv X pins σ H s) (e : H a = some (exo a C none)) (hno : PySem.W.findIn X.K (.ref C) f = some none) (ry : RelV y u)
    (h : ∀ dx s', H dx = none → dx ≠ a → L2.Inv X pins σ (upd (upd H dx (exd dx [(f, y)])) a (exo a C (some dx))) s' → Q () s') : wpAny (model X.prog X.w) A (setAttr (.ref a) f u) Q E s := by
  obtain ⟨t1, ho⟩ := exo_at I.hok e
  obtain ⟨hp, g, d, t, os⟩ := s
  refine PySem.W.set_plain I.kIn (ox := { cls := .ref C, dict := none, data := .fields #[.ref t1, .none, .none, .none, .bool false, .none] }) (od := none) ⟨ho, rfl, rfl, trivial⟩ T.sa ?_
  refine osaN T I.kIn ho hno (fun h' tk' dx k dn dne hx hn => ?_)
  have hnd : H dx = none := I.hok.fresh dn
  have nd : ∀ {b : Addr} {o : Obj}, hp.get? b = some o → b ≠ dx := fun q => Nat.ne_of_lt (Nat.lt_of_lt_of_le (Heap.lt_size q) dn)
  have na : ∀ {b : Addr}, H b = none → b ≠ a := fun n z => by rw [z, e] at n; cases n
  have off : ∀ {b : Addr} {v : HO}, H b = some v → v ≠ exo a C none → upd (upd H dx (exd dx [(f, y)])) a (exo a C (some dx)) b = some v := fun {b v} q n => by
    have hba : b ≠ a := fun z => by
      rw [z, e] at q
      exact n (Option.some.inj q).symm
    rw [upd_ne hba, upd_ne (ne_of_none q hnd)]
    exact q
  have U : Un X.fs [] H (upd (upd H dx (exd dx [(f, y)])) a (exo a C (some dx))) hp h' := {
    keep := fun b o q n _ _ => k b o (na n) q
    slot := fun b o q n _ _ => ⟨o.slots, k b o (na n) q⟩
    free := fun b o q n _ => by rw [upd_ne (na n), upd_ne (nd q)]; exact n
    there := fun b o q _ => by
      by_cases hb : b = a
      · subst hb
        exact ⟨_, hx⟩
      · exact ⟨o, k b o hb q⟩
    tups := fun b xs q => off q (fun z => exo_tup z.symm)
    frzs := fun b o v q => off q (fun z => exo_frz z.symm)
    tbls := fun b ps q => ⟨#[], by rw [off q (fun z => exo_tbl z.symm)]; simp⟩ }
  refine h dx _ hnd dne (I.un (t' := tk') U fun b o q => ?_)
  by_cases hb : b = a
  · subst hb
    rw [upd_same] at q
    cases q
    exact exo_ok hx
  · rw [upd_ne hb] at q
    by_cases hd : b = dx
    · subst hd
      rw [upd_same] at q
      cases q
      exact exd_ok hn (relO_put (fs := []) ry fun g => True.intro)
    · rw [upd_ne hd] at q
      refine (I.hok b o q).stay (fun c v hc z => k c v (fun hca => ?_) z) (fun c hc => off hc (fun z => exo_own z.symm)) (fun c xs hc => off hc (fun z => exo_tup z.symm))
      rcases hc with hc | hc
      · exact hb (hc.symm.trans hca)
      · rw [hca, e] at hc
        exact exo_own (Option.some.inj hc)
theorem stO (T : OexG X.K C) (I : L2.Inv X pins σ H s) (e : H a = some (exo a C (some dx))) (ed : H dx = some (exd dx fs)) (hl : fs.length ≤ 900) (hno : PySem.W.findIn X.K (.ref C) f = some none) (ry : RelV y u)
    (h : ∀ s', L2.Inv X pins σ (upd H dx (exd dx ((f, y) :: fs))) s' → Q () s') : wpAny (model X.prog X.w) A (setAttr (.ref a) f u) Q E s := by
  obtain ⟨t1, ho⟩ := exo_at I.hok e
  obtain ⟨mA, hns, rel⟩ := exd_at I.hok ed
  have hw := within_of rel
  obtain ⟨hp, g, d, t, os⟩ := s
  obtain ⟨oD, _, _, hoD, _, _⟩ := hns.count hw
  refine PySem.W.set_plain I.kIn (ox := { cls := .ref C, dict := some dx, data := .fields #[.ref t1, .none, .none, .none, .bool false, .none] }) (od := some oD) ⟨ho, rfl, rfl, hoD⟩ T.sa ?_
  refine osaO T I.kIn ho hns hw (by rw [List.length_map]; omega) hno (fun h' tk' k hn => ?_)
  obtain ⟨o, es, ep, e', r⟩ := id hn
  exact h _ (I.write (t' := tk') (x := dx) (e := dx) (o := exd dx ((f, y) :: fs)) (by rw [ed]; exact True.intro) (.inl rfl) k ⟨o, e'⟩ (exd_ok hn (relO_put ry rel)))
end
/-- self.f = e in __init__ of an own exception -/
def tStG (K : Frag) (f : Str) (to te : TE) : TS := fun D σ H => te σ H fun y H1 => to σ H1 fun x H2 => ∃ a C : Addr, x = .ref a ∧ OexG K C ∧ PySem.W.findIn K (.ref C) f = some none ∧
  ((H2 a = some (exo a C none) ∧ ∀ dx, H2 dx = none → dx ≠ a → D.nx σ (upd (upd H2 dx (exd dx [(f, y)])) a (exo a C (some dx)))) ∨
    ∃ (dx : Addr) (fs : List (Str × V)), H2 a = some (exo a C (some dx)) ∧ H2 dx = some (exd dx fs) ∧ fs.length ≤ 900 ∧ D.nx σ (upd H2 dx (exd dx ((f, y) :: fs))))
section
variable {X : Cx} {o e : Expr} {es : List Expr} {to te : TE} {ta : TA} {f : Str} {p p' p1 p2 pos : Pos}
theorem ps_stG (ho : PE X o to) (he : PE X e te) (hs : swapsWith e (some (.Attribute o f p')) pos.line X.env = pure false := by rfl) : PS X (.Assign [.Attribute o f p'] e pos) (tStG X.K f to te) := by
  refine ⟨fun pins s σ H D I h => plainObj_wpAny_Assign_Attribute (thn (he.run pins s σ H _ I h) fun v s1 ⟨y, H1, I1, r1, q1⟩ => thn (ho.run pins s1 σ H1 _ I1 q1) fun u s2 ⟨x, H2, I2, r2, a, C, ex, T, hno, q⟩ => ?_) hs⟩
  subst ex
  obtain rfl : u = Value.ref a := r2
  rcases q with ⟨ea, q⟩ | ⟨dx, fs, ea, ed, hl, q⟩
  · exact stN T I2 ea hno r1 fun dx s' n ne J => ⟨σ, _, J, q dx n ne⟩
  · exact stO T I2 ea ed hl hno r1 fun s' J => ⟨σ, _, J, q⟩
/-- C(e, ..) -/
theorem pmkG {CX : CXT} {x : Str} {C fI : Addr} {k : Nat} {fd : FuncData} {ps : List Str} {sp : Sp} (T : OexG X.K C) (iC : PySem.W.findIn X.K (.ref C) "__init__" = some (some (.ref fI))) (tI : PySem.W.typeIn X.K (.ref fI) = some (.type "function"))
    (F1 : FnOk X.prog X.w X.K X.mg X.base CX k fI fd ps sp) (hr : Room (k + 1) X.A) (hb : Binds X.K fd ps []) (hx : Passes CX X (fun _ _ _ => False)) (hg : Gl X x) (hm : X.mg x = some (.ref C)) (ha : PA X (e :: es) ta)
    (hdb : (x == ("__debug__" : Str)) = false := by decide) (he : starEach (e :: es) X.env = (false, eval e X.env) :: starEach es X.env := by rfl) (hpl : (backTo pos (starEach es X.env)).any (·.1) = false := by rfl) :
    PMk X (.Call (.Name x p) (e :: es) [] pos) (tMkO C sp [] ta) := by
  intro pins s σ H Q I h
  obtain ⟨b, nm, q, N, bs, sn, sub, ab, col, dd, k0, k1, k2, k3, k5, hC⟩ := T.cls
  refine wpAny_Call_Name_kw (ld_glob I hg hm ?_ hdb)
  refine PySem.W.callWith_K (h₀ := X.base) I.ok.mod.kin T.kC (thn (ha.run pos pins s σ H _ I h) fun us s1 ⟨vs, H1, I1, r1, hz, q1⟩ => ⟨I1.kIn, ?_⟩) he hpl
  show wpAny _ _ (call (.ref C) us) _ _ _
  obtain ⟨hp, g, dr, tk, os⟩ := s1
  have hsz : hp.objs.size ≤ hp.objs.size + 1 := Nat.le_succ _
  have hn : H1 (hp.objs.size + 1) = none := I1.hok.fresh hsz
  have hq := q1 (hp.objs.size + 1) hn
  rw [List.append_nil] at hq
  have kk : ∀ b o, hp.get? b = some o → ((hp.push (PySem.W.kdv_tup us)).push (PySem.HandSPX.excO C hp.objs.size)).get? b = some o := fun b o e => Heap.get?_push_of_some _ (Heap.get?_push_of_some _ e)
  have hget : ((hp.push (PySem.W.kdv_tup us)).push (PySem.HandSPX.excO C hp.objs.size)).get? (hp.objs.size + 1) = some (PySem.HandSPX.excO C hp.objs.size) := by heap_get
  have I2 : L2.Inv X pins σ (upd H1 (hp.objs.size + 1) (exo (hp.objs.size + 1) C none)) ⟨(hp.push (PySem.W.kdv_tup us)).push (PySem.HandSPX.excO C hp.objs.size), g, dr, tk, os⟩ :=
    I1.laid (t' := tk) (a := hp.objs.size + 1) (o := exo (hp.objs.size + 1) C none) (h' := (hp.push (PySem.W.kdv_tup us)).push (PySem.HandSPX.excO C hp.objs.size)) kk hsz (exo_ok hget)
  have r2 : Vals (V.ref (hp.objs.size + 1) :: vs) (Value.ref (hp.objs.size + 1) :: us) := .cons rfl r1
  have hl : (Value.ref (hp.objs.size + 1) :: us ++ []).length = ps.length := by
    rw [List.append_nil, ← r2.length]
    exact F1.len _ _ _ _ hq
  have hus : us.length ≤ sizeLine := by
    rw [← Paired.length r1, sizeLine_eq]
    omega
  have bb := hb _ (Value.ref (hp.objs.size + 1) :: us) I2.kIn hl
  rw [List.append_nil] at bb
  refine wpAny_call (PySem.HandSPX.call_own b.base (fun Y => rfl) (I1.kIn _ _ hC) (PySem.W.looks_findIn I1.kIn iC) (fun self => PySem.W.bind_fn I1.kIn self tI) hus
    (codeAny_mono (F1.run _ X.stack _ _ ⟨Value.ref (hp.objs.size + 1) :: us, []⟩ (Value.ref (hp.objs.size + 1) :: us) _ _ (fun _ _ _ => False) (hr.make C us []) (I2.env0.make C us []) bb r2 hq) fun r s' hq' => ?_))
  match r, hq' with
  | .error er, hq' => exact hx pins σ _ _ er s' I2 hq'
  | .ok (.ret u), hq' =>
    obtain ⟨v, H2, os2, bare2, un2, hok2, rv, ev, d, fs, ea, ed, hd1, q2⟩ := hq'
    subst ev
    obtain ⟨h2, g2, d2, t2, os'⟩ := s'
    exact ⟨rv, mk_end (raises_own T.exC T.tyC) I1 hsz kk un2 hok2 os2 bare2 ea ed hd1 q2⟩
end
end Ah

/-! exceptions of the program's own over ValueError, with one or two fields -/
namespace Ah
open PySem PySem.Spec PyProof.Rows L2 He
def oexB (b : EB) (C : Str) (K : Frag) : Bool :=
  (match K.lookup (ga K C) with
    | some ⟨.type "type", _, .cls cd, sl⟩ => (match cd.mro, sl.toList with
      | .ref C' :: bm, [_, _, _, _, some (.builtin n), _] => C' == ga K C && (n == b.nw && (!cd.hasDel && (cd.hasDict && (bm == b.tl))))
      | _, _ => false)
    | _ => false) &&
  (eqO (PySem.W.findIn K (.ref (ga K C)) "__setattr__") (some (some (.builtin "object.__setattr__"))) &&
  (decide (PySem.W.subIn K (.ref (ga K C)) (.type "BaseException") = some true) && (decide (PySem.W.typeIn K (.ref (ga K C)) = some (.type "type")) && PySem.W.keepIn K (.ref (ga K C)))))
theorem oex_ok {b : EB} {C : Str} {K : Frag} (h : oexB b C K = true) : OexG K (ga K C) := by
  unfold oexB at h
  obtain ⟨h0, h⟩ := ba h
  obtain ⟨h1, h⟩ := ba h
  obtain ⟨h2, h⟩ := ba h
  obtain ⟨h3, h4⟩ := ba h
  refine ⟨?_, eqO_ok h1, of_decide_eq_true h2, of_decide_eq_true h3, h4⟩
  split at h0
  · rename_i dd cd sl ho
    split at h0
    · rename_i C' bm k0 k1 k2 k3 n k5 hm hsl
      obtain ⟨e1, h0⟩ := ba h0
      obtain ⟨e2, h0⟩ := ba h0
      obtain ⟨e3, h0⟩ := ba h0
      obtain ⟨e4, e5⟩ := ba h0
      have e1' : C' = ga K C := beq_iff_eq.mp e1
      have e2' : n = b.nw := beq_iff_eq.mp e2
      have e5' : bm = b.tl := beq_iff_eq.mp e5
      subst e1' e2' e5'
      obtain ⟨nm, bs, mro, ns, qn, hd, sn, sb, ab, col, del⟩ := cd
      dsimp only at hm e3 e4
      subst hm
      have e3' : del = false := by simpa using e3
      have e4' : hd = true := e4
      subst e3' e4'
      have es : sl = #[k0, k1, k2, k3, some (.builtin b.nw), k5] := by
        apply Array.ext'
        rw [hsl]
      subst es
      exact ⟨b, _, _, _, _, _, _, _, _, _, _, _, _, _, _, ho⟩
    · cases h0
  · cases h0
/-- what __init__ of a class with one field keeps -/
def spX1 (C : Addr) (f : Str) : Sp := fun vs H Q _ => ∃ (a : Addr) (v : V), vs = [.ref a, v] ∧ H a = some (exo a C none) ∧ ∀ dx, H dx = none → dx ≠ a → Q .non (upd (upd H dx (exd dx [(f, v)])) a (exo a C (some dx)))
def spX2 (C : Addr) (f g : Str) : Sp := fun vs H Q _ => ∃ (a : Addr) (v w : V), vs = [.ref a, v, w] ∧ H a = some (exo a C none) ∧ ∀ dx, H dx = none → dx ≠ a → Q .non (upd (upd (upd H dx (exd dx [(f, v)])) a (exo a C (some dx))) dx (exd dx [(g, w), (f, v)]))
/-- the def at f keeps sp, whatever is under way -/
structure FnU (P : Program) (w : World) (K : Frag) (mg : Str → Option Value) (base : Heap) (k : Nat) (f : Addr) (sp : Sp) : Prop where
  ex : ∃ fd ps, FnOk P w K mg base (L2.CX P w) k f fd ps sp ∧ Binds K fd ps []
theorem okU {P : Program} {w : World} {K : Frag} {mg : Str → Option Value} {base : Heap} {N ps : List Str} {k : Nat} {sp : Sp} {d : DefG} (S : Stands K d) (h0 : d.dfl = []) (sc : FnScope N ps d.scope) (len : ∀ vs H Q E, sp vs H Q E → vs.length = ps.length)
    (hb : ∀ (kV doc pm : Value) (an : Option Addr) (cdv ct : Value) (us : List Value), us.length = ps.length → bindArgs (PySem.W.fnOf d.name d.qual d.params d.body d.scope .none kV doc pm an cdv ct) ⟨us, []⟩ = pure (ps.zip us))
    (hbody : ∀ (cdv : Value) (A : Around) (outer : List Env) (s : Shared) (H : Hp) (vs : List V) (Q : VK) (E : XK), Room k (A.deeper (envOfC d.qual d.scope s.heap.objs.size (d.ad K) cdv)) → sp vs H Q E →
      ∃ t, PSs (cxOf (L2.CX P w) P w K mg base N d.qual d.scope (d.ad K) cdv A outer s H E) d.body t ∧ t { nx := fun _ H' => Q .non H', rt := Q } (L2.start N vs) H) : FnU P w K mg base (k + 1) (d.ad K) sp := by
  obtain ⟨fd, F⟩ := S
  have e : d.dvs K = [] := by unfold DefG.dvs; rw [h0]; rfl
  rw [e] at F
  exact ⟨⟨fd, ps, F.ok sc len hbody, F.bindsN hb⟩⟩
/-- the class as a raise asks it -/
structure ExcT (K : Frag) (mg : Str → Option Value) (C : Str) : Prop where
  g : mg C = some (.ref (ga K C))
  o : OexG K (ga K C)
  i : PySem.W.findIn K (.ref (ga K C)) "__init__" = some (some (.ref (ma K (ga K C) "__init__")))
  t : PySem.W.typeIn K (.ref (ma K (ga K C) "__init__")) = some (.type "function")
def excTB (b : EB) (C : Str) (K : Frag) : Bool := oexB b C K && (eqO (PySem.W.findIn K (.ref (ga K C)) "__init__") (some (some (.ref (ma K (ga K C) "__init__")))) && decide (PySem.W.typeIn K (.ref (ma K (ga K C) "__init__")) = some (.type "function")))
theorem excT_ok {b : EB} {C : Str} {K : Frag} {mg : Str → Option Value} (g : mg C = some (.ref (ga K C))) (h : excTB b C K = true) : ExcT K mg C := by
  obtain ⟨h1, h⟩ := ba h
  obtain ⟨h2, h3⟩ := ba h
  exact ⟨g, oex_ok h1, eqO_ok h2, of_decide_eq_true h3⟩
section
variable {X : Cx} {C : Str} {e : Expr} {es : List Expr} {ta : TA} {sp : Sp} {k j : Nat} {p pos pos2 : Pos} {W : WX}
/-- raise C(e, ..) -/
theorem ps_raiseC (hc : X.calm = true) (tk : Takes X W) (T : ExcT X.K X.mg C) (F : FnU X.prog X.w X.K X.mg X.base k (ma X.K (ga X.K C) "__init__") sp) (hr : Rm j X.A) (ha : PA X (e :: es) ta) (hk : k + 1 ≤ j := by decide) (hg : Gl X C := by rfl)
    (hdb : (C == ("__debug__" : Str)) = false := by decide) (he : starEach (e :: es) X.env = (false, eval e X.env) :: starEach es X.env := by rfl) (hpl : (backTo pos (starEach es X.env)).any (·.1) = false := by rfl) :
    PS X (.Raise (some (.Call (.Name C p) (e :: es) [] pos)) none pos2) (fun _ σ H => tMkO (ga X.K C) sp [] ta σ H fun cls d H' => W cls d σ H') := by
  obtain ⟨⟨fd, ps, G, b⟩⟩ := F
  exact ps_raise hc tk (pmkG T.o T.i T.t G (hr.r.mono hk) b passL hg T.g ha hdb he hpl)
end
section
variable {K : Frag} {C : Addr} {f g : Str} {v w : V} {H : Hp} {Q : XK}
theorem exd_not {d : Addr} {fs : List (Str × V)} {o : HO} (h : o = exd d fs) : o = exd d fs := h
/-- what a made error with one field leaves: its dict, new -/
theorem mkX1 (q : ∀ d, H d = none → Q (.ref C) (some d) (upd H d (.xd [(f, v)]))) (a : Addr) (ha : H a = none) : spX1 C f [.ref a, v] (upd H a (exo a C none))
    (fun x H2 => x = .non ∧ ∃ (d : Addr) (fs : List (Str × V)), H2 a = some (exo a C (some d)) ∧ H2 d = some (exd d fs) ∧ H d = none ∧ Q (.ref C) (some d) (upd (del H2 a) d (.xd fs))) fun _ _ _ => False := by
  refine ⟨a, v, rfl, upd_same, fun dx hd ne => ⟨rfl, dx, [(f, v)], upd_same, by rw [upd_ne ne, upd_same], by rw [upd_ne ne] at hd; exact hd, ?_⟩⟩
  rw [upd_ne ne] at hd
  have e : upd (del (upd (upd (upd H a (exo a C none)) dx (exd dx [(f, v)])) a (exo a C (some dx))) a) dx (.xd [(f, v)]) = upd H dx (.xd [(f, v)]) := by
    funext b
    by_cases h1 : b = dx
    · rw [h1, upd_same, upd_same]
    · rw [upd_ne h1, upd_ne h1]
      by_cases h2 : b = a
      · rw [h2, del_same, ha]
      · rw [del_ne h2, upd_ne h2, upd_ne h1, upd_ne h2]
  rw [e]
  exact q dx hd
theorem mkX2 (q : ∀ d, H d = none → Q (.ref C) (some d) (upd H d (.xd [(g, w), (f, v)]))) (a : Addr) (ha : H a = none) : spX2 C f g [.ref a, v, w] (upd H a (exo a C none))
    (fun x H2 => x = .non ∧ ∃ (d : Addr) (fs : List (Str × V)), H2 a = some (exo a C (some d)) ∧ H2 d = some (exd d fs) ∧ H d = none ∧ Q (.ref C) (some d) (upd (del H2 a) d (.xd fs))) fun _ _ _ => False := by
  refine ⟨a, v, w, rfl, upd_same, fun dx hd ne => ⟨rfl, dx, [(g, w), (f, v)], by rw [upd_ne ne.symm, upd_same], upd_same, by rw [upd_ne ne] at hd; exact hd, ?_⟩⟩
  rw [upd_ne ne] at hd
  have e : upd (del (upd (upd (upd (upd H a (exo a C none)) dx (exd dx [(f, v)])) a (exo a C (some dx))) dx (exd dx [(g, w), (f, v)])) a) dx (.xd [(g, w), (f, v)]) = upd H dx (.xd [(g, w), (f, v)]) := by
    funext b
    by_cases h1 : b = dx
    · rw [h1, upd_same, upd_same]
    · rw [upd_ne h1, upd_ne h1]
      by_cases h2 : b = a
      · rw [h2, del_same, ha]
      · rw [del_ne h2, upd_ne h1, upd_ne h2, upd_ne h1, upd_ne h2]
  rw [e]
  exact q dx hd
end
end Ah

/-! try with several clauses 'except x as n' -/
namespace Ah
open PySem PySem.Spec PyProof.Rows L2 He
/-- a clause: its class, the slot of its name, the reading of its suite -/
structure Clause where
  c : Value
  i : Nat
  ts : Addr → Value → Option Addr → TS
/-- what a suite wishes behind itself: the clause's name is gone -/
def goneD (D : Ends) (i : Nat) : Ends := { nx := fun σ H => D.nx (σ.set i none) H, rt := D.rt, bk := fun σ H => D.bk (σ.set i none) H, ct := fun σ H => D.ct (σ.set i none) H }
/-- what the clauses wish of an exception of the body -/
def wCls (K : Frag) (Wout : WX) (D : Ends) : List Clause → WX
  | [] => Wout
  | k :: r => fun cls d σ H => ∃ b, PySem.W.exmOne K cls k.c = some b ∧ (b = true → ∀ a, H a = none → k.ts a cls d (goneD D k.i) (σ.set k.i (some (.ref a))) H) ∧ (b = false → wCls K Wout D r cls d σ H)
inductive HdA (X : Cx) : List ExceptHandler → List Clause → Prop
  | nil : HdA X [] []
  | cons {x n : Str} {k : Clause} {b₀ : Stmt} {suite : List Stmt} {np pos' : Pos} {hds : List ExceptHandler} {l : List Clause} (hc : Names X x k.c) (hi : X.N[k.i]? = some n) (hln : X.env.kindOf n = some .local)
      (hsu : ∀ (a : Addr) (oe : Obj) (cls : Value) (d : Option Addr) (pn : List (Addr × Obj)), Zc cls d oe → (∃ vs, oe.data = .fields vs) → PSs (X.suite a ((a, oe) :: pn)) (b₀ :: suite) (k.ts a cls d)) (r : HdA X hds l) :
      HdA X (.ExceptHandler (some (.Name x np)) (some n) (b₀ :: suite) pos' :: hds) (k :: l)
theorem takes_none {X : Cx} : Takes X (fun _ _ _ _ => False) := fun _ _ ⟨_, _, _, _, _, _, _, _, _, _, _, _, _, _, _, _, w⟩ => w.elim
section
variable {X : Cx} {body : List Stmt} {h₀ : ExceptHandler} {hds : List ExceptHandler} {l : List Clause} {pos : Pos} {tb : WX → TS} {Wout : WX}
theorem ps_tryA (hs : X.stack = X.env :: X.outer) (hf : X.env.frame = some X.env.locals) (hN : X.N.Nodup) (tk : Takes X Wout)
    (hb : ∀ (W : WX) (pn : List (Addr × Obj)) (xe : Value → Shared → Prop), Takes (X.tr pn xe) W → PassesOwn (model X.prog X.w) X.A X.env xe → PSs (X.tr pn xe) body (tb W))
    (hh : HdA X (h₀ :: hds) l) : PS X (.Try body (h₀ :: hds) [] [] pos) (fun D σ H => tb (fun cls d σ' H' => σ'.length = X.N.length → wCls X.K Wout D l cls d σ' H') D σ H) := by
  refine ⟨fun pins s σ H D I h => wpAny_Try_except ?_⟩
  have ok := I.ok
  have hfr : X.A.frames = some (X.env :: X.outer) := by rw [ok.frames, hs]
  refine wpAny_mono ((hb (fun cls d σ' H' => σ'.length = X.N.length → wCls X.K Wout D l cls d σ' H') (X.pn ++ pins) (fun e s₁ => wpAny (model X.prog X.w) X.A (noteFrame e X.env) (fun _ s₂ => wpAny (model X.prog X.w) X.A (setFlight e none) (fun _ s₃ =>
    wpAny (model X.prog X.w) X.A (handleBy e X.env (h₀ :: hds)) (SP X pins D) X.xe s₃) X.xe s₂) X.xe s₁) (fun u s' xx => ?_) PassesOwn.looking).run [] s σ H D (I.toTry _) h) (fun f s1 hsp => ?_) (fun e s1 he => he)
  · obtain ⟨a, B, sI, pins', σ', H', cls, d, rfl, J', nb, up, sky, na, os, ag, w⟩ := xx
    have J : L2.Inv X pins σ' H' sI := J'.ofTry ok
    replace w := w J.len
    refine Sky.land Zc.steady hfr hf (by rw [← hs]; exact sky) fun h3 fl3 up3 => ?_
    have J3 : L2.Inv X pins σ' H' { s' with heap := h3 } := J.landed nb fl3.1 (up.trans up3) os ag
    obtain ⟨oe3, vs3, he3, hz3, hd3⟩ := fl3.there
    have nfr : a ∉ frs (X.env :: X.outer) := fun hm => by
      obtain ⟨_, o', e', hnf⟩ := fl3.2.2.1.mem hm
      rw [he3] at e'
      cases e'
      exact hnf _ hd3
    have nL : a ≠ X.env.locals := fun z => nfr (List.mem_filterMap.mpr ⟨X.env, List.mem_cons_self, by rw [hf, z]⟩)
    have nF : a ∉ X.fs := fun hm => by
      obtain ⟨e, he, q⟩ := List.mem_filterMap.mp hm
      exact nfr (List.mem_filterMap.mpr ⟨e, List.mem_cons_of_mem _ he, q⟩)
    have S3 := J3.suite he3 hd3 na nL nF
    have LT : PySem.W.Looks (model X.prog X.w) h3 (typeOf (.ref a)) cls := fun A Q E s k q => wpAny_typeOf_ref (k _ _ he3) (by rw [hz3.1]; exact q)
    have go : ∀ {hs' : List ExceptHandler} {l' : List Clause}, HdA X hs' l' → wCls X.K Wout D l' cls d σ' H' → wpAny (model X.prog X.w) X.A (handleBy (.ref a) X.env hs') (SP X pins D) X.xe { s' with heap := h3 } := by
      intro hs' l' hk
      induction hk with
      | nil =>
        intro w
        refine wpAny_handleBy_nil ?_
        obtain ⟨k1, k2, k3, oe, vs, T, oT, ts', he, hz, hd, h1, hr⟩ := id fl3
        unfold PySem.passOn
        refine wpAny_bind (wpAny_field he hd h1 ?_)
        rw [if_neg (show ¬ ((Value.ref T == Value.none) = true) by simp)]
        have fin : wpAny (model X.prog X.w) X.A (setFlight (.ref a) X.env.frame) (fun _ s4 => wpAny (model X.prog X.w) X.A (throw (.ref a) : Sem Flow) (SP X pins D) X.xe s4) X.xe { s' with heap := h3 } := by
          rw [hf]
          refine HandSPX.setFlight_upZ fl3 fun h4 hh4 up4 => wpAny_throw (tk _ _ ⟨a, B, sI, pins, σ', H', cls, d, rfl, J, nb, (up.trans up3).trans up4, .inr (.inr ?_), na, os, ag, w⟩)
          rw [hs]
          exact hh4
        first
          | exact wpAny_bind (wpAny_pure (wpAny_bind fin))
          | exact wpAny_bind fin
      | @cons x n k b₀ suite np pos' hds2 l2 hc hi hln hsu r ih =>
        rintro ⟨b, hb1, hyes, hno⟩
        refine wpAny_handleBy_cons (codeAny_handlers_test ?_) (by intro q; cases q)
        have LM := PySem.W.exm_one (M := model X.prog X.w) (J3.kIn) LT hb1
        have test : ∀ {Q : Value → Shared → Prop} {E : Value → Shared → Prop}, Q k.c { s' with heap := h3 } → wpAny (model X.prog X.w) (X.A.mark (some (.ref a))) (eval (.Name x np) X.env) Q E { s' with heap := h3 } := by
          intro Q E q
          obtain ⟨hg, hdbg, hm | ⟨hm, hv, hnn⟩⟩ := hc
          · exact ld_glob (X := X.suite a ((a, oe3) :: (X.pn ++ pins))) S3 hg hm q hdbg
          · exact ld_blt (X := X.suite a ((a, oe3) :: (X.pn ++ pins))) S3 hg hm hv q hnn hdbg
        refine test (LM.here ?_)
        cases b with
        | true =>
          refine codeAny_handlers_suite_as (HandSPX.lands_againZ fl3 fun h4 fl4 up4 => ?_)
          have J4 : L2.Inv X pins σ' H' { s' with heap := h4 } := J.landed nb fl4.1 ((up.trans up3).trans up4) os ag
          obtain ⟨oe4, vs4, he4, hz4, hd4⟩ := fl4.there
          have S4 := J4.suite he4 hd4 na nL nF
          refine store_ok (X := X.suite a ((a, oe4) :: (X.pn ++ pins))) (v := .ref a) S4 hN hi (.inl hln) rfl (fun s5 S5 => ?_) (.inr hln)
          refine wpAny_mono ((hsu a oe4 cls d (X.pn ++ pins) hz4 ⟨_, hd4⟩).run [] s5 _ H' _ S5 (hyes rfl a na)) (fun f s6 hsp => ?_) (fun _ _ z => False.elim z)
          have end_ : ∀ {σ6 : L2.St} {H6 : Hp} {Q : Shared → Prop}, L2.Inv (X.suite a ((a, oe4) :: (X.pn ++ pins))) [] σ6 H6 s6 → (∀ s7, L2.Inv X pins (σ6.set k.i none) H6 s7 → Q s7) →
              wpAny (model X.prog X.w) X.A (do bindName X.env n .none; unbindBehindTheSuite X.env n pos') (fun _ s7 => Q s7) X.xe s6 := fun {σ6 H6 Q} S6 hq => gone_ok (S6.unsuite ok) hN hi hln hq
          match f, hsp with
          | .next, ⟨σ6, H6, S6, q6⟩ => exact end_ S6 fun s7 J7 => ⟨_, _, J7, q6⟩
          | .brk, ⟨σ6, H6, S6, q6⟩ => exact end_ S6 fun s7 J7 => ⟨_, _, J7, q6⟩
          | .cont, ⟨σ6, H6, S6, q6⟩ => exact end_ S6 fun s7 J7 => ⟨_, _, J7, q6⟩
          | .ret u, ⟨v6, σ6, H6, S6, r6, q6⟩ => exact end_ S6 fun s7 J7 => ⟨_, _, _, J7, r6, q6⟩
        | false =>
          show wpAny _ X.A (handleBy (.ref a) X.env hds2) _ _ _
          exact ih (hno rfl)
    exact go hh w
  · match f, hsp with
    | .next, ⟨σ', H', J', q⟩ => exact wpAny_execs_nil ⟨σ', H', J'.ofTry ok, q⟩
    | .brk, ⟨σ', H', J', q⟩ => exact ⟨σ', H', J'.ofTry ok, q⟩
    | .cont, ⟨σ', H', J', q⟩ => exact ⟨σ', H', J'.ofTry ok, q⟩
    | .ret u, ⟨v, σ', H', J', r, q⟩ => exact ⟨v, σ', H', J'.ofTry ok, r, q⟩
end
end Ah

/-! isinstance of a caught error that has a dict; repr of data -/
namespace Ah
open PySem PySem.Spec PySem.W PySem.Calls PyProof.Rows L2 He
section
variable {prog : Program} {w : World} {A : Around} {E : Value → Shared → Prop} {s : Shared} {K : Frag} {x D : Addr} {ox od : Obj}
theorem cls_of_exc {Q : Option Value → Shared → Prop} (C : ExcC K D) (X : K.In s.heap) (I : InstAt s.heap x ox D (some od)) (h : Q (some (.ref D)) { s with toks := s.toks + 1 }) : wpAny (model prog w) A (getAttr? (.ref x) "__class__") Q E s := by
  have hf : findObj K D (some od) "__class__" = some (.bind (.builtin "getset_descriptor.__get__") (.builtin "object.__class__")) := findObj_data (by obtain ⟨cd, hc, _⟩ := any_some C.hd; rw [hc]; rfl) C.ha C.hn C.ht
  obtain ⟨hp, g, d, t, os⟩ := s
  have L0 := I.type (M := model prog w)
  have L1 := looks_findIn (M := model prog w) X C.hg
  have L2 := looks_findIn (M := model prog w) X C.hk
  have L3 := looks_find (M := model prog w) X I hf
  have sub : Looks (model prog w) hp (isInstance (.ref x) (.type "BaseException")) true := L0.andThen (looks_subIn X C.hs)
  have own : (Value.builtin "BaseException.__getattribute__" == Value.builtin "object.__getattribute__") = false := by decide +kernel
  have own1 : (onTheHeap (Value.ref D) && Value.builtin "BaseException.__getattribute__" == Value.builtin "object.__getattribute__") = false := by rw [own]; rfl
  have own2 : (false && onTheHeap (Value.builtin "BaseException.__getattribute__")) = false := rfl
  unfold getAttr? getAttrBy? getAttrBy
  refine wpAny_bind (wpAny_mkText (wpAny_bind (wpAny_attempt (wpAny_holding (wpAny_bind (L0.at (wpAny_bind (L1.at ?_))))))))
  show wpAny _ _ (if (onTheHeap (Value.ref D) && Value.builtin "BaseException.__getattribute__" == Value.builtin "object.__getattribute__") = true then _ else _) _ _ _
  rw [own1, if_neg Bool.false_ne_true]
  unfold getAttrByItsOwn hookBefore
  refine wpAny_bind ?_
  rw [if_pos (show onTheHeap (Value.ref D) = true from rfl)]
  refine L2.at (wpAny_bind (wpAny_attempt (wpAny_holding ?_)))
  unfold callGetattribute
  rw [own2, if_neg Bool.false_ne_true]
  unfold boundAndCalled
  rw [PySem.F.excAttr_ValueError.ga.bind (.ref x)]
  refine wpAny_bind (wpAny_pure ?_)
  show wpAny _ _ (call (.builtin "BaseException.__getattribute__") [.ref x, .str "__class__" t]) _ _ _
  refine wpAny_call (codeAny_call_builtin PySem.F.excAttr_ValueError.ga.plain PySem.F.entry_bexc_ga ?_)
  refine @check_slot (model prog w) _ _ ⟨hp, g, d, t + 1, os⟩ "BaseException.__getattribute__" "BaseException" "__getattribute__" (.ref x) [.str "__class__" t] [] _ (by decide +kernel) (by decide +kernel) sub (PySem.F.args_bexc_ga (.ref x) (.str "__class__" t)) ?_
  unfold Builtin.«object.__getattribute__»
  refine wpAny_bind (wpAny_of_eq (a := ((Value.ref x : Value), [Value.str "__class__" t])) (by first | rfl | (simp only [slotArgs]; rfl)) ?_)
  refine wpAny_bind (wpAny_pure (wpAny_bind (L0.at (wpAny_bind (L3.at ?_)))))
  show wpAny _ _ (holding [Value.builtin "object.__class__"] (call (.builtin "getset_descriptor.__get__") [.builtin "object.__class__", .ref x, .ref D]) >>= ret) _ _ _
  refine wpAny_bind (wpAny_holding (wpAny_call (class_get (s := ⟨hp, g, d, t + 1, os⟩) (ox := ox) (od := some od) X I C.hm ?_)))
  refine wpAny_pure ?_
  show wpAny _ _ (handedOut (.ref D)) _ _ _
  rw [handedOut_of (v := .ref D) rfl]
  first
    | exact wpAny_pure (wpAny_pure h)
    | exact wpAny_pure h
    | exact wpAny_pure (wpAny_bind (wpAny_pure (wpAny_pure h)))
theorem kitx_excD (C : ExcC K D) : KitX K (.ref x) (.ref D) (fun h => InstAt h x ox D (some od)) where
  ty := fun _ _ _ I => I.type
  it := fun _ _ X _ => by
    obtain ⟨cdD, hcD, _⟩ := any_some C.hd
    unfold clsIn at hcD
    split at hcD
    · rename_i c' d' cd' sl' ho
      intro A' Q' E' s' k q
      unfold isType loadHead
      exact wpAny_bind (wpAny_loadPart (k _ _ (X _ _ ho)) (wpAny_pure q))
    · cases hcD
  ne := fun h tp dd its n sl X htp => by
    obtain ⟨cdD, hcD, _⟩ := any_some C.hd
    refine Bool.eq_false_iff.mpr fun q => ?_
    cases (Value.ref.inj (beq_iff_eq.mp q) : D = tp)
    unfold clsIn at hcD
    split at hcD
    · rename_i c' d' cd' sl' ho
      cases (X _ _ ho).symm.trans htp
    · cases hcD
  ca := fun X I k => cls_of_exc C X I k
end
/-- isinstance(e, c), e the exception with a dict that the suite holds -/
def rIsX (K : Frag) (a : Addr) (cls : Value) (d : Option Addr) : List V → Hp → VK → Prop := fun xs H Q => ∃ (D dd : Addr) (fs : List (Str × V)) (c : V) (cv : Value) (b : Bool), cls = .ref D ∧ d = some dd ∧ H dd = some (.xd fs) ∧ ExcC K D ∧ xs = [.ref a, c] ∧ ClsV c cv ∧ kitOne K (.ref D) cv = some b ∧ Q (.bl b) H
theorem call_isX {X : Cx} {a : Addr} {cls : Value} {d : Option Addr} {oe : Obj} {pn : List (Addr × Obj)} (hz : Zc cls d oe) (hf : ∃ vs, oe.data = .fields vs) : CallR (X.suite a ((a, oe) :: pn)) (.builtin "isinstance") (rIsX X.K a cls d) := by
  intro pins s σ H xs us Q I r h
  obtain ⟨D, dd, fs, c, cv, b, rfl, rfl, ed, C, rfl, hcv, e, q⟩ := h
  cases r with
  | cons rx rr =>
    cases rr with
    | cons rt rr =>
      cases rr
      cases rx
      have ec := hcv.eq rt
      subst ec
      obtain ⟨hget, _⟩ := I.pin (a, oe) (List.mem_append.mpr (.inl List.mem_cons_self))
      obtain ⟨vs, hv⟩ := hf
      have hx : ObjOk X.prog X.w H s.heap dd (.xd fs) := I.hok dd _ ed
      obtain ⟨mA, hns, hr⟩ := hx
      obtain ⟨od, ho, hl⟩ := lookIn_ns hns
      have J : InstAt s.heap a oe D (some od) := ⟨hget, hz.1, by unfold notCls; rw [hv] <;> rfl, by rw [hz.2]; exact ho⟩
      exact kia_one (kitx_excD C) I.kIn J e (fun z => nomatch z) fun tk => ⟨.bl b, H, I.kept (t' := tk) fun _ _ z => z, rfl, q⟩
def excCB (C : Str) (K : Frag) : Bool :=
  eqO (findIn K (.ref (ga K C)) "__getattribute__") (some (some (.builtin "BaseException.__getattribute__"))) && (eqO (findIn K (.ref (ga K C)) "__getattr__") (some none) && (decide (subIn K (.ref (ga K C)) (.type "BaseException") = some true) &&
  (hasDictIn K (ga K C) && (eqO (findIn K (.ref (ga K C)) "__class__") (some (some (.builtin "object.__class__"))) && (eqO (specialIn K (.builtin "object.__class__") "__get__") (some (some (.builtin "getset_descriptor.__get__"))) &&
  (decide (takesIn K (.builtin "object.__class__") = some true) && decide (mroIn K (ga K C) (.type "object") = some true)))))))
theorem excC_ok {C : Str} {K : Frag} (h : excCB C K = true) : ExcC K (ga K C) := by
  unfold excCB at h
  obtain ⟨h1, h⟩ := ba h
  obtain ⟨h2, h⟩ := ba h
  obtain ⟨h3, h⟩ := ba h
  obtain ⟨h4, h⟩ := ba h
  obtain ⟨h5, h⟩ := ba h
  obtain ⟨h6, h⟩ := ba h
  obtain ⟨h7, h8⟩ := ba h
  exact ⟨eqO_ok h1, eqO_ok h2, of_decide_eq_true h3, h4, eqO_ok h5, eqO_ok h6, of_decide_eq_true h7, of_decide_eq_true h8⟩
/-- repr(x) of data -/
def rReprD (K : Frag) : List V → Hp → VK → Prop := fun xs H Q => ∃ (x : V) (d : PyData), xs = [x] ∧ Dp K H x d ∧ d.showable = true ∧ d.hasDict = false ∧ d.depth ≤ 64 ∧ d.shown.length ≤ sizeLine ∧ Q (.str d.shown) H
theorem call_reprD {X : Cx} (hg : X.A.guards = some []) (hu : X.A.units + 99 < cLine) : CallR X (.builtin "repr") (rReprD X.K) := by
  intro pins s σ H xs us Q I r h
  obtain ⟨x, d, rfl, hx, h1, h2, h3, h4, q⟩ := h
  obtain ⟨u, rfl, ru⟩ := r.one
  obtain ⟨as, rd⟩ := Dp.reads I d x u hx ru
  have fin : ∀ h' t tk, (∀ b o, s.heap.get? b = some o → h'.get? b = some o) → EP X pins σ Q (.str d.shown t) { s with heap := h', toks := tk } := fun h' t tk hk => ⟨.str d.shown, H, I.kept (t' := tk) hk, ⟨t, rfl⟩, q⟩
  have now : ∀ t tk, EP X pins σ Q (.str d.shown t) { s with toks := tk } := fun t tk => fin s.heap t tk fun _ _ z => z
  cases hx with
  | non => cases (show u = Value.none from ru); exact PySem.P.repr_of_none (now _ _)
  | bl b => cases (show u = Value.bool b from ru); exact PySem.P.repr_of_bool (now _ _)
  | int i =>
    obtain ⟨t, e⟩ := (show ∃ t, u = Value.int i t from ru)
    subst e
    exact PySem.P.repr_of_int (of_decide_eq_true h1) (now _ _)
  | str z =>
    obtain ⟨t, e⟩ := (show ∃ t, u = Value.str z t from ru)
    subst e
    exact PySem.P.repr_of_str (now _ _) h4
  | lst a b =>
    rename_i ad xs ds
    cases (show u = Value.ref ad from ru)
    exact repr_of_reads' rd h1 (fun z => by rw [h2] at z; cases z) hg (by omega) (fun _ _ z => z) fin h4
  | tup a b =>
    rename_i ad xs ds
    cases (show u = Value.ref ad from ru)
    exact repr_of_reads' rd h1 (fun z => by rw [h2] at z; cases z) hg (by omega) (fun _ _ z => z) fin h4
theorem call_reprX {X : Cx} {a : Addr} {cls : Value} {d : Option Addr} {oe : Obj} {pn : List (Addr × Obj)} (hz : Zc cls d oe) (hg : (X.suite a ((a, oe) :: pn)).A.guards = some []) (hu : (X.suite a ((a, oe) :: pn)).A.units + 99 < cLine) : CallR (X.suite a ((a, oe) :: pn)) (.builtin "repr") (rReprD X.K) :=
  call_reprD hg hu
end Ah

/-! the claim's call with tables of code objects; lambdas handed to a def -/
namespace Ah
open PySem PySem.Spec PyProof.Rows L2 He LamX
/-- the tables of the defs that make lambdas, below the running heap -/
abbrev Tbs (base : Heap) (mg : Str → Option Value) (cs : List (Addr × Addr)) : Prop := ∀ p ∈ cs, TabB base mg p.1 p.2
def LawOkT (P : Program) (w : World) (K : Frag) (mg : Str → Option Value) (cs : List (Addr × Addr)) (k : Nat) (fa : Addr) (sp : Sp) : Prop :=
  ∀ (base : Heap), Tbs base mg cs → ∀ (A : Around) (outer : List Env) (s : Shared) (H : Hp) (u : Value) (v : V) (Q : VK) (E : XK), Rm k A → Env0 P w K mg base A outer s H → RelV v u → sp [v] H Q E →
    codeAny (model P w) A (.call (.ref fa) ⟨[u], []⟩) (CR L2.CX0 outer P w H s Q E) s
theorem okLawT {P : Program} {w : World} {K : Frag} {mg : Str → Option Value} {cs : List (Addr × Addr)} {N : List Str} {x : Str} {k : Nat} {sp : Sp} {d : DefG} (S : Stands K d) (h0 : d.dfl = []) (sc : FnScope N [x] d.scope)
    (hb : ∀ (kV doc pm : Value) (an : Option Addr) (cdv ct : Value) (us : List Value), us.length = 1 → bindArgs (PySem.W.fnOf d.name d.qual d.params d.body d.scope .none kV doc pm an cdv ct) ⟨us, []⟩ = pure ([x].zip us))
    (hbody : ∀ base : Heap, Tbs base mg cs → BodyB L2.CX0 P w K mg base N d k sp) : LawOkT P w K mg cs (k + 1) (d.ad K) sp := by
  obtain ⟨fd, F⟩ := S
  have e : d.dvs K = [] := by unfold DefG.dvs; rw [h0]; rfl
  rw [e] at F
  have b := FunD.bindsA (ps := [x]) F hb
  exact fun base tb A outer s H u v Q E hr e0 r hsp => body_run F sc (hbody base tb) hr e0 (b s [u] rfl) rfl (.cons r .nil) hsp
section
variable {P : Program} {w : World} {K : Frag} {mg mb : Str → Option Value} {k : Nat} {fa a : Addr} {cs : List (Addr × Addr)} {sp : Sp} {s : Shared} {vs : List Value} {ns : List Int} {H : Hp}
/-- what the claim's call finds -/
structure Found (K : Frag) (mg mb : Str → Option Value) (cs : List (Addr × Addr)) (a : Addr) (vs : List Value) (s : Shared) : Prop where
  KX : K.In s.heap
  ns : s.heap.Ns mainGlobals mg
  bn : s.heap.Ns builtinsNs mb
  bb : ∀ x : Str, x ≠ "__name__" → mb x = bootBuiltins x
  lim : s.heap.NoLimit
  gen : s.gens = #[]
  tab : ∀ p ∈ cs, s.heap.get? p.2 = some { cls := .none, data := .fields #[] }
  out : ∀ p ∈ cs, K.lookup p.2 = none
  hd : ∀ p ∈ cs, PySem.W.CodeHd s.heap p.1 p.2
  bm : ∃ (bm : Addr) (ob : Obj), mg "__builtins__" = some (.ref bm) ∧ bm ≠ builtinsNs ∧ s.heap.get? bm = some ob ∧ ob.cls = .type "module" ∧ ob.dict = some builtinsNs ∧ ob.data = .plain
  at_ : s.heap.get? a = some { cls := .type "list", data := .seq vs.toArray }
/-- only the script and the tables are tracked -/
structure Track (P : Program) (w : World) (K : Frag) (cs : List (Addr × Addr)) (a : Addr) (s : Shared) (H : Hp) : Prop where
  tb : ∀ p ∈ cs, H p.2 = some (.tbl #[])
  only : ∀ b, H b = none ∨ b ∈ cs.map (·.2) ∨ (b = a ∧ K.lookup a = none ∧ ∃ o xs, H b = some (.frz o (.lst xs)))
  ok : HOk P w H s.heap
theorem Found.isT (F : Found K mg mb cs a vs s) {b : Addr} (hb : b ∈ cs.map (·.2)) : s.heap.get? b = some { cls := .none, data := .fields #[] } := by
  obtain ⟨p, hp, e⟩ := List.mem_map.mp hb
  subst e
  exact F.tab p hp
/-- an object of another make is not tracked -/
theorem Found.off (F : Found K mg mb cs a vs s) (T : Track P w K cs a s H) {b : Addr} {o : Obj} (e : s.heap.get? b = some o) (h1 : ∀ l n, o.data ≠ .seq l n) (h2 : o.data ≠ .fields #[]) : H b = none := by
  rcases T.only b with z | z | ⟨z, _⟩
  · exact z
  · rw [F.isT z] at e
    cases e
    exact absurd rfl h2
  · subst z
    rw [F.at_] at e
    cases e
    exact absurd rfl (h1 _ _)
theorem Found.low (F : Found K mg mb cs a vs s) (T : Track P w K cs a s H) {b : Addr} {o : Obj} (e : s.heap.get? b = some o) (h1 : ∀ l n, o.data ≠ .seq l n) (h2 : o.data ≠ .fields #[]) : (hidT s.heap H).get? b = some o := hidT_get e (F.off T e h1 h2)
theorem Found.lowNs (F : Found K mg mb cs a vs s) (T : Track P w K cs a s H) {b : Addr} {m : Str → Option Value} (h : s.heap.Ns b m) : (hidT s.heap H).Ns b m := by
  obtain ⟨o, es, ep, e, d, r⟩ := h
  exact ⟨o, es, ep, F.low T e (fun l n z => by rw [d] at z; cases z) (fun z => by rw [d] at z; cases z), d, r⟩
theorem Found.env (F : Found K mg mb cs a vs s) (T : Track P w K cs a s H) : Env0 P w K mg (hidT s.heap H) callerA [] s H := by
  obtain ⟨mc, l1, l2⟩ := F.lim
  refine ⟨rfl, ⟨fun b o e => hidT_get (F.KX b o e) ?_, F.lowNs T F.ns, ⟨mb, F.lowNs T F.bn, F.bb⟩, ⟨mc, F.lowNs T l1, l2⟩⟩, fun b o e => of_hidT e, Nat.le_of_eq (hidT_size _ _), trivial, fun b hb => absurd (show b ∈ ([] : List Addr) from hb) List.not_mem_nil, T.ok, .of_eq F.gen⟩
  rcases T.only b with z | z | ⟨z, k, _⟩
  · exact z
  · obtain ⟨p, hp, ep⟩ := List.mem_map.mp z
    subst ep
    rw [F.out p hp] at e
    cases e
  · subst z
    rw [k] at e
    cases e
theorem Found.tabs (F : Found K mg mb cs a vs s) (T : Track P w K cs a s H) : Tbs (hidT s.heap H) mg cs := fun p hp => by
  have hTp := F.tab p hp
  refine ⟨?_, ?_, fun z => ?_⟩
  · obtain ⟨o, us, file, tf, flags, tg, inF, text, tt, e1, r1, r2, r3, r4, r5, r6, r7, r8, hne⟩ := F.hd p hp
    refine ⟨o, us, file, tf, flags, tg, inF, text, tt, F.low T e1 (fun l n z => ?_) (fun z => ?_), r1, r2, r3, r4, r5, r6, r7, r8, hne⟩
    · rw [r2] at z
      cases z
    · rw [r2] at z
      cases z
      simp at r3
  · obtain ⟨bm, ob, b1, b2, b3, b4, b5, b6⟩ := F.bm
    refine ⟨bm, ob, b1, b2, fun q => ?_, fun q => ?_, F.low T b3 (fun l n z => by rw [b6] at z; cases z) (fun z => by rw [b6] at z; cases z), b4, b5, b6⟩
    · obtain ⟨o, es, ep, e, hd, _⟩ := F.ns
      subst q
      rw [e] at b3
      cases b3
      rw [hd] at b6
      cases b6
    · subst q
      rw [hTp] at b3
      cases b3
      cases b6
  · obtain ⟨o, es, ep, e, hd, _⟩ := F.ns
    rw [z, hTp] at e
    cases e
    cases hd
theorem Found.run (F : Found K mg mb cs a vs s) (T : Track P w K cs a s H) (hr : Room k callerA) (L : LawOkT P w K mg cs k fa sp) (hsp : sp [.ref a] H (fun v _ => v = .bl true) fun _ _ _ => False) :
    codeAny (model P w) callerA (.call (.ref fa) ⟨[.ref a], []⟩) (fun r s' => r = .ok (.ret (.bool true)) ∧ OldK s.heap s'.heap ∧ s'.os = s.os ∧ AllBare s'.gens) s := by
  refine codeAny_mono (L _ (F.tabs T) callerA [] s H (.ref a) (.ref a) _ _ ⟨hr, rfl⟩ (F.env T) rfl hsp) fun r s' h => ?_
  match r, h with
  | .ok (.ret u), ⟨v, H', os, bare, un, hok', r', q⟩ =>
    cases (show v = .bl true from q)
    cases (show u = Value.bool true from r')
    have key : ∀ b o, b ∉ cs.map (·.2) → s.heap.get? b = some o → s'.heap.get? b = some o := fun b o nb e => by
      rcases T.only b with z | z | ⟨_, _, ob, xs, z⟩
      · exact un.keep b o e z (fun y => absurd (show b ∈ ([] : List Addr) from y) List.not_mem_nil) List.not_mem_nil
      · exact absurd z nb
      · have e1 := (T.ok b _ z).1
        rw [e] at e1
        cases e1
        exact (hok' b _ (un.frzs b _ _ z)).1
    have grown : ∀ p ∈ cs, ∃ more : Array Value, s'.heap.get? p.2 = some { cls := .none, data := .fields more } := fun p hp => by
      obtain ⟨more, z⟩ := un.tbls p.2 #[] (T.tb p hp)
      exact ⟨_, hok' p.2 _ z⟩
    refine ⟨rfl, ⟨fun b o e => ?_, fun b o e => ?_⟩, os, bare⟩
    · by_cases hb : b ∈ cs.map (·.2)
      · obtain ⟨p, hp, ep⟩ := List.mem_map.mp hb
        subst ep
        obtain ⟨more, hm⟩ := grown p hp
        rw [F.tab p hp] at e
        cases e
        exact .inr (.inl ⟨((F.hd p hp).tab (F.tab p hp)).isCodeTable, rfl, #[], more, rfl, by rw [Array.empty_append]; exact hm⟩)
      · exact .inl (key b o hb e)
    · by_cases hb : b ∈ cs.map (·.2)
      · obtain ⟨p, hp, ep⟩ := List.mem_map.mp hb
        subst ep
        obtain ⟨more, hm⟩ := grown p hp
        exact ⟨_, hm⟩
      · exact ⟨o, key b o hb e⟩
theorem Found.call (F : Found K mg mb cs a vs s) (hi : IntsAre vs ns) (hl : ns.length ≤ sizeLine) (hr : Room k callerA) (L : LawOkT P w K mg cs k fa sp)
    (hsp : ∀ H : Hp, (∀ p ∈ cs, H p.2 = some (.tbl #[])) → SqL K H a (ns.map V.int) → sp [.ref a] H (fun v _ => v = .bl true) fun _ _ _ => False) :
    codeAny (model P w) callerA (.call (.ref fa) ⟨[.ref a], []⟩) (fun r s' => r = .ok (.ret (.bool true)) ∧ OldK s.heap s'.heap ∧ s'.os = s.os ∧ AllBare s'.gens) s := by
  have rv := vals_ints hi
  have lenV := hi.length
  have aT : a ∉ cs.map (·.2) := fun z => by
    have q := F.isT z
    rw [F.at_] at q
    have z' : Data.seq vs.toArray _ = Data.fields #[] := congrArg Obj.data (Option.some.inj q)
    cases z'
  have mem : ∀ p ∈ cs, p.2 ∈ cs.map (·.2) := fun p hp => List.mem_map.mpr ⟨p, hp, rfl⟩
  cases hk : K.lookup a with
  | some o =>
    have e := F.KX a o hk
    rw [F.at_] at e
    cases e
    let H : Hp := fun b => if b ∈ cs.map (·.2) then some (.tbl #[]) else none
    have T : Track P w K cs a s H := ⟨fun p hp => if_pos (mem p hp), fun b => by
        by_cases hb : b ∈ cs.map (·.2)
        · exact .inr (.inl hb)
        · exact .inl (if_neg hb), fun b u z => by
        by_cases hb : b ∈ cs.map (·.2)
        · cases ((if_pos hb).symm.trans z : some (HO.tbl #[]) = some u)
          exact F.isT hb
        · cases ((if_neg hb).symm.trans z : none = some u)⟩
    exact F.run T hr L (hsp H T.tb (.inr ⟨_, vs.toArray, _, hk, rfl, rfl, rfl, by rw [List.size_toArray, lenV]; exact hl, by simpa using rv⟩))
  | none =>
    let H : Hp := fun b => if b = a then some (.frz { cls := .type "list", data := .seq vs.toArray } (.lst (ns.map V.int))) else if b ∈ cs.map (·.2) then some (.tbl #[]) else none
    have at_ : H a = some (.frz { cls := .type "list", data := .seq vs.toArray } (.lst (ns.map V.int))) := if_pos rfl
    have tb : ∀ b, b ∈ cs.map (·.2) → H b = some (.tbl #[]) := fun b hb => (if_neg (show ¬ b = a from fun z => aT (z ▸ hb))).trans (if_pos hb)
    have off : ∀ b, b ≠ a → b ∉ cs.map (·.2) → H b = none := fun b h1 h2 => (if_neg h1).trans (if_neg h2)
    have T : Track P w K cs a s H := ⟨fun p hp => tb _ (mem p hp), fun b => by
        by_cases hb : b = a
        · subst hb
          exact .inr (.inr ⟨rfl, hk, _, _, at_⟩)
        · by_cases h2 : b ∈ cs.map (·.2)
          · exact .inr (.inl h2)
          · exact .inl (off b hb h2), fun b u z => by
        by_cases hb : b = a
        · subst hb
          rw [at_] at z
          cases z
          exact ⟨F.at_, by rw [List.length_map]; exact hl, vs, _, rv, F.at_⟩
        · by_cases h2 : b ∈ cs.map (·.2)
          · rw [tb b h2] at z
            cases z
            exact F.isT h2
          · rw [off b hb h2] at z
            cases z⟩
    exact F.run T hr L (hsp H T.tb (.inl (.inr ⟨_, at_⟩)))
end
/-- a law's end, with tables -/
theorem law_walkT {l : PySem.W.OpenLaw} {n k : Nat} {q : Program} {loose : List Str} {XP : (Str → Option Value) → Heap → Prop} {YP : World → Heap → Prop} {d : DefRec}
    (hn : l.most = some n) (hn2 : n ≤ sizeLine) (hdf : d.params.defaults = []) (hr : Room k callerA)
    (F : ∀ (w : World) (mg : Str → Option Value) (fa : Addr) (h : Heap), YP w h → h.Ns mainGlobals mg → mg d.name = some (.ref fa) →
      ∃ (K : Frag) (cs : List (Addr × Addr)) (sp : Sp), K.In h ∧ (∀ p ∈ cs, h.get? p.2 = some { cls := .none, data := .fields #[] }) ∧ (∀ p ∈ cs, K.lookup p.2 = none) ∧ (∀ p ∈ cs, PySem.W.CodeHd h p.1 p.2) ∧
        (∀ (H : Hp) (a : Addr) (ns : List Int), ns.length ≤ n → (∀ z ∈ ns, Builtin.Int.intBits z ≤ 1048576) → (∀ p ∈ cs, H p.2 = some (.tbl #[])) → SqL K H a (ns.map V.int) → sp [.ref a] H (fun v _ => v = .bl true) fun _ _ _ => False) ∧ LawOkT l.prog w K mg cs k fa sp) :
    PySem.W.WalkO q loose XP YP l.row.toRowW d [] (fun f vs => PySem.call f vs) := by
  refine Att.attach_callB hn hdf fun w s₀ s₁ mg mb fa o pm cd doc a vs ns G Y ho hd hcd hmg hobj hints hlen hbits hg => ?_
  obtain ⟨K, cs, sp, KX, h1, h2, h3, hsp, hF⟩ := F w mg fa _ Y G.T.g hmg
  exact Found.call ⟨KX, G.T.g, G.T.b, G.T.builtins, G.T.nolimit, hg, h1, h2, h3, G.T.bmain, hobj⟩ hints (Nat.le_trans hlen hn2) hr hF fun H hH hS => hsp H a ns hlen hbits hH hS
end Ah

/-! x(lambda: body), x a def of the text that calls what it got -/
namespace Ah
open PySem PySem.Spec PyProof.Rows L2 He LamX
theorem body_runS {P : Program} {w : World} {K : Frag} {mg : Str → Option Value} {base : Heap} {CX : CXT} {N ps : List Str} {k : Nat} {d : DefG} {fd : FuncData} {dvs : List V} {kws : List (Str × V)} (F : FunD K d.name d.qual d.params d.body d.scope dvs kws (d.ad K) fd) (S : FnScope N ps d.scope)
    {A : Around} {outer : List Env} {s : Shared} {H : Hp} {args : Args} {us : List Value} {vs : List V} {Q : VK} {E : XK} (hr : Rm (k + 1) A) (e0 : Env0 P w K mg base A outer s H) (hb : BindsTo s fd args (ps.zip us)) (hl : vs.length = ps.length) (r : Vals vs us)
    (hbody : Rm k (A.deeper (envOfC d.qual d.scope s.heap.objs.size (d.ad K) (CodeV K (d.ad K)))) →
      ∃ t, PSs (cxOf CX P w K mg base N d.qual d.scope (d.ad K) (CodeV K (d.ad K)) A outer s H E) d.body t ∧ t { nx := fun _ H' => Q .non H', rt := Q } (L2.start N vs) H) :
    codeAny (model P w) A (.call (.ref (d.ad K)) args) (CR CX outer P w H s Q E) s := by
  obtain ⟨oc, od, dV, kV, doc, pm, an, cdv, ct, osl, rfl, lk, hcd, _, _⟩ := F.ex
  have ec : CodeV K (d.ad K) = cdv := by
    unfold CodeV
    rw [lk]
  subst ec
  exact run_ofS lk hcd S hr.r e0 hb r hl fun _ => hbody ⟨hr.r.deeper _, hr.g⟩
section
variable {X : Cx} {pins : List (Addr × Obj)} {σ : L2.St} {H HZ : Hp} {s s1 : Shared}
/-- the call of the lambda, in the def that got it: Z is that def's context, entered at s -/
theorem pe_actG {Ng : List Str} {dg : DefG} {f c' : Addr} {cdg pm ctv : Value} {params : Arguments} {body : Expr} {scope : Scope} {k i : Nat} {a : Str} {pn : List (Addr × Obj)} {xe : Value → Shared → Prop} {W : WX} {E : XK} {tb : TE} {p1 p2 : Pos}
    (I : L2.Inv X pins σ H s) (L : LamS X.env.scope scope) (hf : s.heap.get? f = some (PySem.W.kla_obj "<lambda>" (X.env.qual ++ "<lambda>") params body scope (cloFrom X.env.cells scope.names []) pm c' ctv)) (hfn : H f = none) (hfr : f ∉ frs X.stack)
    (hbind : bindArgs (PySem.W.kla_fn "<lambda>" (X.env.qual ++ "<lambda>") params body scope (cloFrom X.env.cells scope.names []) pm (.ref c') ctv) ⟨[], []⟩ = pure [])
    (tk : Takes ((cxOf L2.CX0 X.prog X.w X.K X.mg X.base Ng dg.qual dg.scope (dg.ad X.K) cdg X.A X.stack s H L2.E0).tr pn xe) W) (hW : ∀ cls d σ' H', E cls d H' → W cls d σ' H') (hr : Rm (k + 1) (X.A.deeper (envOfC dg.qual dg.scope s.heap.objs.size (dg.ad X.K) cdg)))
    (hbody : ∀ (A : Around) (outer : List Env) (s : Shared) (H : Hp), Rm k (A.deeper (lamEnv X scope s.heap.objs.size f c')) → PE (lamCx X A outer s H E scope f c') body tb)
    (hN : Ng[i]? = some a) (hv : Vis dg.scope a) (hd : (a == ("__debug__" : Str)) = false := by decide) (hcd : (a == ("__classdict__" : Str)) = false := by decide) :
    PE ((cxOf L2.CX0 X.prog X.w X.K X.mg X.base Ng dg.qual dg.scope (dg.ad X.K) cdg X.A X.stack s H L2.E0).tr pn xe) (.Call (.Name a p1) [] [] p2)
      (fun σZ HZ Q => σZ[i]? = some (some (.ref f)) ∧ HZ c' = some (CodeO c' (X.env.qual ++ "<lambda>")) ∧ tb σ HZ Q) := by
  refine ⟨fun pinsZ sZ σZ HZ Q IZ h => ?_⟩
  obtain ⟨hs, hc, ht⟩ := h
  refine wpAny_Call_Name_kw (thn ((pe_var (pos := p1) (i := i) hN hv hd hcd).run pinsZ sZ σZ HZ (fun v H1 => v = .ref f ∧ H1 = HZ) IZ ⟨.ref f, hs, rfl, rfl⟩) fun u s1 ⟨v, H1, I1, r1, ev, eH⟩ => ?_)
  subst ev
  rw [eH] at I1
  cases (show u = Value.ref f from r1)
  have of1 : s1.heap.get? f = some (PySem.W.kla_obj "<lambda>" (X.env.qual ++ "<lambda>") params body scope (cloFrom X.env.cells scope.names []) pm c' ctv) := I1.base.keep f _ hf hfn hfr (fun z => nomatch (show f ∈ ([] : List Addr) from z))
  refine PySem.W.callWith_F0 ⟨_, _, _, _, of1⟩ ?_
  obtain ⟨⟨oc, vs, t, hoc, hdc, hvc⟩, _, _⟩ := I1.hok c' _ hc
  have rc : codeAny (model X.prog X.w) (X.A.deeper (envOfC dg.qual dg.scope s.heap.objs.size (dg.ad X.K) cdg)) (.call (.ref f) ⟨[], []⟩) (CR (L2.CX X.prog X.w) (envOfC dg.qual dg.scope s.heap.objs.size (dg.ad X.K) cdg :: X.stack) X.prog X.w HZ s1 Q E) s1 := by
    refine PySem.W.kla_callFunE hr.r.depth of1 rfl L.co L.gen rfl ⟨c', oc, vs, t, rfl, hoc, hdc, hvc⟩ ?_
    rw [hbind]
    refine wpAny_pure (wpAny_newFunctionEnv (fun y hy => (L.own y hy).2) (fun y hy => absurd hy (by simp)) (fun h₁ hns hsb => ⟨I1.nolimit.fresh _ hsb, ?_⟩) L.kind)
    have kp : ∀ b o, s1.heap.get? b = some o → h₁.get? b = some o := fun b o e => hsb.extBut b o (Nat.ne_of_lt (Heap.lt_size e)) (Heap.get?_push_of_some _ e)
    have J := lam_start2 (E := E) (f := f) (c' := c') (tk := s1.toks + ([] : List (Str × Value)).length) I L I1.env0 hr.r.hd I1.base hns kp
    have hr2 : Rm k ((X.A.deeper (envOfC dg.qual dg.scope s.heap.objs.size (dg.ad X.K) cdg)).deeper (lamEnv X scope s1.heap.objs.size f c')) := ⟨hr.r.deeper _, hr.g⟩
    refine PySem.W.kla_codeExpr (wpAny_mono ((hbody _ _ s1 HZ hr2).run [] _ _ HZ Q J ht) (fun v s' hq => ?_) fun e s' hq => hq)
    obtain ⟨w', H', J', rv, q⟩ := hq
    exact ⟨w', H', J'.os, J'.bare, J'.base, J'.hok, rv, q⟩
  have hx : Passes (L2.CX X.prog X.w) ((cxOf L2.CX0 X.prog X.w X.K X.mg X.base Ng dg.qual dg.scope (dg.ad X.K) cdg X.A X.stack s H L2.E0).tr pn xe) E := passes_call tk hW
  refine wpAny_call (codeAny_mono rc fun r s' hq => ?_)
  match r, hq with
  | .error e, hq => exact hx pinsZ σZ HZ s1 e s' I1 hq
  | .ok (.ret u), hq => exact I1.after hq
end
/-- the def dg that calls what it got, by the name a: TT, what it makes of the lambda's reading -/
def GivesG (X : Cx) (dg : DefG) (Ng : List Str) (k : Nat) (a : Str) (q : Str) (TT : (XK → Hp → VK → Prop) → Hp → VK → Prop) : Prop :=
  ∀ (cdg : Value) (f c' : Addr) (s : Shared) (H : Hp) (Q : VK) (tl : XK → Hp → VK → Prop), Rm k (X.A.deeper (envOfC dg.qual dg.scope s.heap.objs.size (dg.ad X.K) cdg)) →
    (∀ (W : WX) (pn : List (Addr × Obj)) (xe : Value → Shared → Prop) (E : XK) (p1 p2 : Pos), Takes ((cxOf L2.CX0 X.prog X.w X.K X.mg X.base Ng dg.qual dg.scope (dg.ad X.K) cdg X.A X.stack s H L2.E0).tr pn xe) W → (∀ cls d σ' H', E cls d H' → W cls d σ' H') →
      PE ((cxOf L2.CX0 X.prog X.w X.K X.mg X.base Ng dg.qual dg.scope (dg.ad X.K) cdg X.A X.stack s H L2.E0).tr pn xe) (.Call (.Name a p1) [] [] p2) (fun σZ HZ Q => σZ[0]? = some (some (.ref f)) ∧ HZ c' = some (CodeO c' q) ∧ tl E HZ Q)) →
    H c' = some (CodeO c' q) → TT tl H Q →
    ∃ t, PSs (cxOf L2.CX0 X.prog X.w X.K X.mg X.base Ng dg.qual dg.scope (dg.ad X.K) cdg X.A X.stack s H L2.E0).nox dg.body t ∧ t { nx := fun _ H' => Q .non H', rt := Q } (L2.start Ng [.ref f]) H
section
variable {X : Cx}
/-- x(lambda: body) -/
theorem pe_lamG {T : List (Addr × Str)} {TT : (XK → Hp → VK → Prop) → Hp → VK → Prop} {x a : Str} {dg : DefG} {c P : Addr} {k j : Nat} {Ng : List Str} {params : Arguments} {body : Expr} {scope : Scope} {t : XK → TE} {p lpos pos : Pos}
    (S : Stands X.K dg) (h0 : dg.dfl = []) (hm : X.mg x = some (.ref (dg.ad X.K))) (Sg : FnScope Ng [a] dg.scope)
    (hb : ∀ (kV doc pm : Value) (an : Option Addr) (cdv ct : Value) (us : List Value), us.length = 1 → bindArgs (PySem.W.fnOf dg.name dg.qual dg.params dg.body dg.scope .none kV doc pm an cdv ct) ⟨us, []⟩ = pure ([a].zip us))
    (hNg : Ng[0]? = some a) (hva : Vis dg.scope a) (hG : GivesG X dg Ng (k + 1) a (X.env.qual ++ "<lambda>") TT)
    (TB : TabB X.base X.mg c P) (hcode : X.env.code = .ref c) (hmT : (P, X.env.qual ++ "<lambda>") ∈ T) (hu : ∀ p ∈ T, p.1 = P → p.2 = X.env.qual ++ "<lambda>") (hr : Rm j X.A) (L : LamS X.env.scope scope)
    (hbody : ∀ (A : Around) (outer : List Env) (s : Shared) (H : Hp) (E : XK) (f c' : Addr), Rm k (A.deeper (lamEnv X scope s.heap.objs.size f c')) → PE (lamCx X A outer s H E scope f c') body (t E))
    (hk : k + 2 ≤ j := by decide) (hg : Gl X x := by rfl) (hdef : defaultsOf params X.env = ([], []) := by rfl)
    (hbind : ∀ (q : Str) (cl : List (Str × Addr)) (pm cv ctv : Value), bindArgs (PySem.W.kla_fn "<lambda>" q params body scope cl pm cv ctv) ⟨[], []⟩ = pure [] := by intro _ _ _ _ _; rfl)
    (hdb : (x == ("__debug__" : Str)) = false := by decide) (hd : (a == ("__debug__" : Str)) = false := by decide) (hcd : (a == ("__classdict__" : Str)) = false := by decide) :
    PE X (.Call (.Name x p) [.Lambda params body scope lpos] [] pos) (tLam T TT t) := by
  obtain ⟨fd, F⟩ := S
  have e : dg.dvs X.K = [] := by unfold DefG.dvs; rw [h0]; rfl
  rw [e] at F
  refine ⟨fun pins s σ H Q I h => ?_⟩
  obtain ⟨hT, h⟩ := h
  refine wpAny_Call_Name_kw (ld_glob I hg hm ?_ hdb)
  refine PySem.W.callWith_K (h₀ := X.base) I.ok.mod.kin F.kp ?_ (by rfl) (by rfl)
  show wpAny _ _ (spliced ((false, eval (.Lambda params body scope lpos) X.env) :: backTo pos (starEach [] X.env))) _ _ s
  refine Calls.spliced_cons (lam_make2 I TB hcode hmT hu hT hdef (L.has I.ok) fun f c' pm' ctv H1 s' I1 eN T1 hf hfn hfr hco => ?_)
  refine Calls.spliced_nil ⟨I1.kIn, ?_⟩
  have rc : codeAny (model X.prog X.w) X.A (.call (.ref (dg.ad X.K)) ⟨[.ref f], []⟩) (CR L2.CX0 X.stack X.prog X.w H1 s' Q L2.E0) s' := by
    refine body_runS (k := k + 1) (us := [.ref f]) (vs := [.ref f]) F Sg (hr.mono hk) I1.env0 (FunD.bindsA (ps := [a]) F hb s' [.ref f] rfl) rfl (.cons rfl .nil) fun hr' => ?_
    obtain ⟨t', ht', hq'⟩ := hG _ f c' s' H1 Q (fun E H' Q' => t E σ H' Q') hr' (fun W pn xe E p1 p2 tk hW => pe_actG (i := 0) I1 L hf hfn hfr (hbind _ _ _ _ _) tk hW hr' (fun A outer s H hr2 => hbody A outer s H E f c' hr2) hNg hva hd hcd) hco (h H1 eN T1)
    exact ⟨t', ht'.nox, hq'⟩
  refine wpAny_call (codeAny_mono rc fun r s2 hq => ?_)
  match r, hq with
  | .ok (.ret u), hq => exact I1.after hq
end
/-- the name of the lambdas of the def d -/
def qOf (d : DefG) : Str := (envOfC d.qual d.scope 0 0 .none).qual ++ Str.ofString "<lambda>"
end Ah

/-! points: pairs of a number and a text, and their order -/
namespace Ah
open PySem PySem.Spec PyProof.Rows L2 He
abbrev Pt : Type := Int × Str
def ptD (p : Pt) : PyData := .tuple [.int p.1, .str p.2]
/-- a point's pair stands at a -/
def PtAt (H : Hp) (a : Addr) (p : Pt) : Prop := H a = some (.tup [.int p.1, .str p.2])
theorem PtAt.same {H H' : Hp} {a : Addr} {p : Pt} (h : PtAt H a p) (s : Same H H') : PtAt H' a p := s _ _ h
theorem PtAt.dp {K : Frag} {H : Hp} {a : Addr} {p : Pt} (h : PtAt H a p) : Dp K H (.ref a) (ptD p) := .tup (SqT.of h) (.cons (.int _) (.cons (.str _) .nil))
def ptLt (p q : Pt) : Bool := PySem.W.dataLt (ptD p) (ptD q)
theorem ptLt_eq (p q : Pt) : ptLt p q = (decide (p.1 < q.1) || (decide (p.1 = q.1) && decide (p.2.cps.toList < q.2.cps.toList))) := by
  obtain ⟨n, z⟩ := p
  obtain ⟨m, y⟩ := q
  show PyProof.Rows.lexLt PyProof.Rows.itemOrd [.inl 1, .inl n, .inl 1, .inr z.cps.toList, .inl 0] [.inl 1, .inl m, .inl 1, .inr y.cps.toList, .inl 0] = _
  have i1 : PyProof.Rows.itemOrd.blt (.inl 1) (.inl 1) = false := rfl
  have i0 : PyProof.Rows.itemOrd.blt (.inl 0) (.inl 0) = false := rfl
  have e1 : PyProof.Rows.itemOrd.blt (.inl n) (.inl m) = decide (n < m) := rfl
  have e2 : PyProof.Rows.itemOrd.blt (.inl m) (.inl n) = decide (m < n) := rfl
  have e3 : PyProof.Rows.itemOrd.blt (.inr z.cps.toList) (.inr y.cps.toList) = decide (z.cps.toList < y.cps.toList) := rfl
  have e4 : PyProof.Rows.itemOrd.blt (.inr y.cps.toList) (.inr z.cps.toList) = decide (y.cps.toList < z.cps.toList) := rfl
  have en : PyProof.Rows.lexLt PyProof.Rows.itemOrd ([] : List (Int ⊕ List Nat)) [] = false := rfl
  rw [lex_cons, lex_cons, lex_cons, lex_cons, lex_cons, i1, i0, e1, e2, e3, e4, en]
  by_cases h1 : n < m
  · simp [h1]
  · by_cases h2 : m < n
    · simp [h1, h2, show n ≠ m by omega]
    · simp [h1, h2, show n = m by omega]
theorem ptLt_irrefl (p : Pt) : ptLt p p = false := by
  rw [ptLt_eq]
  simp
theorem ptLt_asymm {p q : Pt} (h : ptLt p q = true) : ptLt q p = false := by
  cases e : ptLt q p with
  | false => rfl
  | true =>
    have z := (listOrd itemOrd).trans (PySem.W.keyToks (ptD p)) (PySem.W.keyToks (ptD q)) (PySem.W.keyToks (ptD p)) h e
    exact absurd ((ptLt_irrefl p).symm.trans z) Bool.false_ne_true
theorem ptLt_trans {p q r : Pt} (h : ptLt p q = true) (h' : ptLt q r = true) : ptLt p r = true := (listOrd itemOrd).trans (PySem.W.keyToks (ptD p)) (PySem.W.keyToks (ptD q)) (PySem.W.keyToks (ptD r)) h h'
theorem ptLt_total {p q : Pt} (h : ptLt p q = false) (h' : ptLt q p = false) : p = q := by
  rw [ptLt_eq] at h h'
  obtain ⟨n, z⟩ := p
  obtain ⟨m, y⟩ := q
  simp only [Bool.or_eq_false_iff, Bool.and_eq_false_iff, decide_eq_false_iff_not] at h h'
  have e : n = m := by omega
  subst e
  have e2 : z.cps.toList = y.cps.toList := List.le_antisymm (List.not_lt.mp (h'.2.resolve_left (by simp))) (List.not_lt.mp (h.2.resolve_left (by simp)))
  rw [PySem.W.str_of_cps e2]
theorem pt_alike (p q : Pt) : PySem.W.alike (ptD p) (ptD q) = true := rfl
section
variable {X : Cx} {k : Nat}
def rPt (f : Pt → Pt → Bool) : V → V → Hp → VK → Prop := fun x y H Q => ∃ (a b : Addr) (p q : Pt), x = .ref a ∧ y = .ref b ∧ PtAt H a p ∧ PtAt H b q ∧ Q (.bl (f p q)) H
theorem op_ltP (hu : X.A.units + 64 < cLine) : OpR X (compareOp .Lt) (rPt ptLt) := by
  intro pins s σ H x y v u Q I rx ry h
  obtain ⟨a, b, p, q, rfl, rfl, hp, hq, k⟩ := h
  obtain ⟨as, r1⟩ := Dp.reads I _ _ v hp.dp rx
  obtain ⟨bs, r2⟩ := Dp.reads I _ _ u hq.dp ry
  exact PySem.W.lt_data r1 r2 (pt_alike p q) (by intro z; cases z) (by simp [ptD, PyData.depth, PyData.depthAll]; omega) ⟨.bl _, H, I, rfl, k⟩
end
/-! is_point -/
def textOk (l : List Nat) : Bool := if l.getLast? = some 33 then isKeyL l.dropLast else isKeyL l
/-- is_point of a pair, by the kinds of its items -/
def ptK (ku kt : Kn) : Bool := ku.within 0 4294967296 && (match kt with
  | .str z => z.cps.toList.isEmpty || ((match ku with | .int i => !decide (i = 4294967296) | _ => true) && textOk z.cps.toList)
  | _ => false)
theorem ptK_is (i : Int) (z : Str) : ptK (.int i) (.str z) = ((Kn.int i).within 0 4294967296 && (z.cps.toList.isEmpty || (!decide (i = 4294967296) && textOk z.cps.toList))) := rfl
theorem textOk_snoc (l : List Nat) (c : Nat) : textOk (l ++ [c]) = if c = 33 then isKeyL l else isKeyL (l ++ [c]) := by
  unfold textOk
  simp
/-- is_point(x) is b -/
inductive PtV (K : Frag) (H : Hp) : V → Bool → Prop
  | no {x : V} {k : Kn} (h : Is K H x k) (hk : k.isT "tuple" = false) : PtV K H x false
  | len {a : Addr} {l : List V} (e : H a = some (.tup l)) (hl : l.length ≠ 2) (hm : l.length ≤ 1000) : PtV K H (.ref a) false
  | two {a : Addr} {u t : V} {ku kt : Kn} (e : H a = some (.tup [u, t])) (hu : Is K H u ku) (ht : Is K H t kt) (hs : kt.small) : PtV K H (.ref a) (ptK ku kt)
theorem PtV.same {K : Frag} {H H' : Hp} {x : V} {b : Bool} (h : PtV K H x b) (s : Same H H') : PtV K H' x b := by
  cases h with
  | no h hk => exact .no (h.same s) hk
  | len e hl hm => exact .len (s _ _ e) hl hm
  | two e hu ht hs => exact .two (s _ _ e) (hu.same s) (ht.same s) hs
/-- a point by its parts -/
def isPt (p : Pt) : Bool := ptK (.int p.1) (.str p.2)
theorem PtAt.ptv {K : Frag} {H : Hp} {a : Addr} {p : Pt} (h : PtAt H a p) (hp : isPt p = true) (hs : p.2.length ≤ 1000000) : PtV K H (.ref a) true := by
  have z : PtV K H (.ref a) (ptK (.int p.1) (.str p.2)) := .two h (.int _) (.str _) hs
  rw [show ptK (.int p.1) (.str p.2) = true from hp] at z
  exact z
/-- an error of the class C with one field goes out, over the heap H -/
def Out1 (K : Frag) (E : XK) (H : Hp) (C f : Str) (v : V) : Prop := ∀ (H' : Hp) (d : Addr), Same H H' → H' d = some (.xd [(f, v)]) → E (.ref (ga K C)) (some d) H'
def Out2 (K : Frag) (E : XK) (H : Hp) (C f g : Str) (v w : V) : Prop := ∀ (H' : Hp) (d : Addr), Same H H' → H' d = some (.xd [(g, w), (f, v)]) → E (.ref (ga K C)) (some d) H'
theorem Out1.same {K : Frag} {E : XK} {H H' : Hp} {C f : Str} {v : V} (o : Out1 K E H C f v) (s : Same H H') : Out1 K E H' C f v := fun H2 d s2 h => o H2 d (s.trans s2) h
theorem Out2.same {K : Frag} {E : XK} {H H' : Hp} {C f g : Str} {v w : V} (o : Out2 K E H C f g v w) (s : Same H H') : Out2 K E H' C f g v w := fun H2 d s2 h => o H2 d (s.trans s2) h
/-- raise C(v) -/
theorem Out1.mk {K : Frag} {E : XK} {H : Hp} {C f : Str} {v : V} (o : Out1 K E H C f v) {ta : TA} {σ : L2.St} (ha : ∀ Q' : List V → Hp → Prop, Q' [v] H → ta σ H Q') : tMkO (ga K C) (spX1 (ga K C) f) [] ta σ H fun cls d H' => E cls d H' := by
  refine ha _ ⟨by simp, mkX1 fun d hd => o _ d (Same.upd (Same.refl _) hd) upd_same⟩
theorem Out2.mk {K : Frag} {E : XK} {H : Hp} {C f g : Str} {v w : V} (o : Out2 K E H C f g v w) {ta : TA} {σ : L2.St} (ha : ∀ Q' : List V → Hp → Prop, Q' [v, w] H → ta σ H Q') : tMkO (ga K C) (spX2 (ga K C) f g) [] ta σ H fun cls d H' => E cls d H' := by
  refine ha _ ⟨by simp, mkX2 fun d hd => o _ d (Same.upd (Same.refl _) hd) upd_same⟩
/-! arcs -/
def ArcAt (K : Frag) (H : Hp) (x : Addr) (p q : Pt) : Prop := ∃ dx a b : Addr, H x = some (.ins (ga K "Arc") dx [("own_start", .ref a), ("own_end", .ref b)]) ∧ PtAt H a p ∧ PtAt H b q
theorem ArcAt.same {K : Frag} {H H' : Hp} {x : Addr} {p q : Pt} (h : ArcAt K H x p q) (s : Same H H') : ArcAt K H' x p q := by
  obtain ⟨dx, a, b, h1, h2, h3⟩ := h
  exact ⟨dx, a, b, s _ _ h1, s _ _ h2, s _ _ h3⟩
theorem textOk_key {l : List Nat} (h : isKeyL l = true) : textOk l = true := by
  unfold textOk
  split
  · rename_i e
    have m : (33 : Nat) ∈ l := List.mem_of_getLast? e
    unfold isKeyL at h
    have h3 := List.all_eq_true.mp (Bool.and_eq_true_iff.mp h).2 33 m
    exact absurd h3 (by decide)
  · exact h
theorem textOk_behind {z : Str} (h : isKeyL z.cps.toList = true) : textOk (z ++ Str.ofString "!").cps.toList = true := by
  rw [tl_app, show (Str.ofString "!").cps.toList = [33] by decide +kernel, textOk_snoc, if_pos rfl]
  exact h
theorem isPt_of {v : Int} {z : Str} (h0 : 0 ≤ v) (h1 : v < 4294967296) (h : z.cps.toList = [] ∨ textOk z.cps.toList = true) : isPt (v, z) = true := by
  show ptK (.int v) (.str z) = true
  rw [ptK_is]
  have e : (Kn.int v).within 0 4294967296 = true := by
    simp [Kn.within]
    omega
  rw [e, decide_eq_false (by omega)]
  rcases h with h | h
  · rw [h]
    rfl
  · rw [h]
    simp
theorem strOk_behind {z : Str} (h : PyData.strOk z = true) : PyData.strOk (z ++ Str.ofString "!") = true := by
  unfold PyData.strOk at h ⊢
  rw [← Array.all_toList] at h ⊢
  rw [tl_app, List.all_append, h]
  decide +kernel
theorem ptFalse {K : Frag} {H : Hp} {x : V} {b : Bool} (e : b = false) (h : PtV K H x b) : PtV K H x false := e ▸ h
end Ah

/-! a method with a starred parameter: its rest is a new tuple -/
namespace Ah
open PySem PySem.Spec PyProof.Rows L2 He
def tupO (rs : List Value) : Obj := { cls := .type "tuple", data := .seq rs.toArray }
abbrev pushT (s : Shared) (rs : List Value) : Shared := { s with heap := s.heap.push (tupO rs) }
/-- the def at f, called by n own arguments and a rest -/
structure FnV (P : Program) (w : World) (K : Frag) (mg : Str → Option Value) (base : Heap) (k : Nat) (f : Addr) (n : Nat) (sp : Sp) : Prop where
  run : ∀ (A : Around) (outer : List Env) (s : Shared) (H : Hp) (us rs : List Value) (vs : List V) (Q : VK) (E : XK) (R : Result → Shared → Prop), Rm k A → Env0 P w K mg base A outer (pushT s rs) H → us.length = n → Vals vs us → K.In s.heap → rs.length ≤ sizeLine →
    sp (vs ++ [.ref s.heap.objs.size]) H Q E → (∀ r s', CR (L2.CX P w) outer P w H (pushT s rs) Q E r s' → R r s') → codeAny (model P w) A (.call (.ref f) ⟨us ++ rs, []⟩) R s
  kp : PySem.W.keepIn K (.ref f) = true
section
variable {P : Program} {w : World} {K : Frag} {mg : Str → Option Value} {base : Heap}
theorem okV {N ps : List Str} {x : Str} {k : Nat} {sp : Sp} {d : DefG} (S : Stands K d) (h0 : d.dfl = []) (sc : FnScope N (ps ++ [x]) d.scope) (len : ∀ vs H Q E, sp vs H Q E → vs.length = ps.length + 1)
    (hb : ∀ (kV doc pm : Value) (an : Option Addr) (cdv ct : Value) (us rs : List Value), us.length = ps.length → bindArgs (PySem.W.fnOf d.name d.qual d.params d.body d.scope .none kV doc pm an cdv ct) ⟨us ++ rs, []⟩ = (newTuple rs >>= fun t => pure ((ps ++ [x]).zip (us ++ [t]))))
    (hbody : BodyB (L2.CX P w) P w K mg base N d k sp) : FnV P w K mg base (k + 1) (d.ad K) ps.length sp := by
  obtain ⟨fd, F⟩ := S
  have e : d.dvs K = [] := by unfold DefG.dvs; rw [h0]; rfl
  rw [e] at F
  refine ⟨fun A outer s H us rs vs Q E R hr e0 hl r KX hz hsp hR => codeAny_mono ?_ fun res s' hq => hR res s' hq, F.kp⟩
  obtain ⟨oc, od, dV, kV, doc, pm, an, cdv, ct, osl, rfl, lk, hcd, hdf, _⟩ := F.ex
  have ed : dV = .none := by
    rcases hdf with ⟨_, z⟩ | ⟨z, _⟩
    · exact z
    · exact absurd rfl z
  subst ed
  have lim : (pushT s rs).heap.NoLimit := e0.mod.nolimit.keeps fun b o e => (e0.bs b o e).1
  have KX1 : K.In (pushT s rs).heap := e0.mod.kin.keeps fun b o e => (e0.bs b o e).1
  have hl2 : (vs ++ [V.ref s.heap.objs.size]).length = (ps ++ [x]).length := by rw [len _ _ _ _ hsp, List.length_append]; rfl
  have r2 : Vals (vs ++ [V.ref s.heap.objs.size]) (us ++ [.ref s.heap.objs.size]) := r.append (.cons rfl .nil)
  have par : ∀ y ∈ (ps ++ [x]).zip (us ++ [Value.ref s.heap.objs.size]), d.scope.names.lookup y.1 = some .local ∨ (d.scope.names.lookup y.1 = some .cell ∧ ((cellsFrom ((pushT s rs).heap.objs.size + 1) d.scope.names []).lookup y.1).isSome = true) := by
    rintro ⟨n, v⟩ hy
    cases sc.par n (List.of_mem_zip hy).1 with
    | inl q => exact Or.inl q
    | inr q => exact Or.inr ⟨q, PySem.W.cellsFrom_some _ _ _ (Or.inl q)⟩
  refine codeAny_call_function hr.r.depth (KX _ _ lk) rfl sc.co sc.gen rfl (PySem.W.codeRec_of KX hcd) ?_
  rw [hb kV doc pm an cdv ct us rs hl]
  refine wpAny_bind (wpAny_newTuple (wpAny_pure ?_) hz)
  refine wpAny_newFunctionEnv_cells sc.kind par fun env he s1 x1 => ?_
  subst he
  refine ⟨lim.keeps x1.toInCall.keep, codeAny_func ?_⟩
  have ec : CodeV K (d.ad K) = cdv := by
    unfold CodeV
    rw [lk]
  subst ec
  have hr' : Rm k (A.deeper (envOfC d.qual d.scope (pushT s rs).heap.objs.size (d.ad K) (CodeV K (d.ad K)))) := ⟨hr.r.deeper _, hr.g⟩
  obtain ⟨t, ht, hq⟩ := hbody A outer (pushT s rs) H _ Q E hr' hsp
  have I := inv_start (CX := L2.CX P w) (E := E) sc hr.r.hd e0 hl2 r2 x1
  refine wpAny_mono (ht.run [] s1 (L2.start N _) H _ I hq) (fun fl s' hs => ?_) fun _ _ hs => hs
  cases fl with
  | ret u =>
    obtain ⟨v, _, H', J, rv, q⟩ := hs
    exact ⟨v, H', J.os, J.bare, J.base, J.hok, rv, q⟩
  | next =>
    obtain ⟨_, H', J, q⟩ := hs
    exact ⟨V.non, H', J.os, J.bare, J.base, J.hok, rfl, q⟩
  | brk => exact hs.elim fun _ z => z.elim fun _ z => z.2.elim
  | cont => exact hs.elim fun _ z => z.elim fun _ z => z.2.elim
end
section
variable {X : Cx} {k j : Nat} {f C : Addr} {sp : Sp} {E : XK} {x m : Str} {e o : Expr} {es : List Expr} {t : TA} {ta : TE} {p pos apos : Pos}
/-- o.m(e, ..), m's def has self and a starred parameter -/
theorem pe_mtV {pl : Sem Bool} (he : PE X o ta) (c : Cls X.K C) (hm : Meth X.K C m f) (F : FnV X.prog X.w X.K X.mg X.base k f 1 sp) (hr : Rm j X.A) (hx : Passes (L2.CX X.prog X.w) X E) (ha : PA X (e :: es) t) (hk : k ≤ j := by decide)
    (hst : starEach (e :: es) X.env = (false, eval e X.env) :: starEach es X.env := by rfl) (hpl : (backTo pos (starEach es X.env)).any (·.1) = false := by rfl)
    (ht : eval (.Call (.Attribute o m apos) (e :: es) [] pos) X.env = (do
      let ov ← eval o X.env
      standAt apos.atName
      let (f, first) ← holding [ov] (getMethod ov m pl)
      callWith pos f first (backTo pos (starEach (e :: es) X.env)) (backToKw pos (keywordEach [] X.env))) := by rfl) :
    PE X (.Call (.Attribute o m apos) (e :: es) [] pos) (tMeth C m (fun vs H Q E => ∃ x ws, vs = x :: ws ∧ ws.length ≤ sizeLine ∧ ∀ p, H p = none → sp [x, .ref p] (upd H p (.tup ws)) Q E) [] E ta t) := by
  refine ⟨fun pins s σ H Q I h => PySem.W.methodCall_KW (pl := pl) (thn (he.run pins s σ H _ I h) fun u s1 ⟨x, H1, I1, rx, a, dx, fs, ex, ea, l, q⟩ => ?_) ht⟩
  subst ex
  cases (show u = Value.ref a from rx)
  refine getmeth_ok I1 ea c hm l (PySem.W.callWith_K (first := [.ref a]) (h₀ := X.base) I.ok.mod.kin hm.kp (thn (ha.run pos pins s1 σ H1 _ I1 q) fun us s2 ⟨vs, H2, I2, r, q2⟩ => ⟨I2.kIn, ?_⟩) hst hpl)
  simp only [List.append_nil] at q2
  obtain ⟨x, ws, e1, hz, q3⟩ := q2
  simp only [List.cons.injEq] at e1
  obtain ⟨rfl, rfl⟩ := e1
  have hf : H2 s2.heap.objs.size = none := I2.hok.fresh (Nat.le_refl _)
  have I3 : L2.Inv X pins σ (upd H2 s2.heap.objs.size (.tup vs)) (pushT s2 us) := by
    refine I2.laid (t' := s2.toks) (fun b u e => Heap.get?_push_of_some _ e) (Nat.le_refl _) ?_
    exact ⟨hz, us, r, ⟨_, Heap.get?_push_size _ rfl, rfl, _, rfl⟩⟩
  refine wpAny_call (F.run X.A X.stack s2 _ [.ref a] us [.ref a] Q E _ (hr.mono hk) I3.env0 rfl (.cons rfl .nil) I2.kIn (by rw [← r.length]; exact hz) (q3 _ hf) fun res s' hq => ?_)
  match res, hq with
  | .error e, hq => exact hx pins σ _ _ e s' I3 hq
  | .ok (.ret u), hq => exact I3.after hq
end
end Ah

/-! the state of a law's turn: what was there is kept, the pool is a pool, the tables are tables -/
namespace Ah
open PySem PySem.Spec PyProof.Rows L2 He LamX
/-- cut a suite behind its first statement: N is what comes next -/
theorem seq_gen {A B : TS} {D : Ends} {σ : L2.St} {H : Hp} (P : L2.St → Hp → Prop) (h : ∀ N : L2.St → Hp → Prop, (∀ σ' H', P σ' H' → N σ' H') → A { D with nx := N } σ H) (hB : ∀ σ' H', P σ' H' → B D σ' H') : tSeq A B D σ H := h (B D) hB
theorem one_gen {A : TS} {D : Ends} {σ : L2.St} {H : Hp} (P : L2.St → Hp → Prop) (h : ∀ N : L2.St → Hp → Prop, (∀ σ' H', P σ' H' → N σ' H') → A { D with nx := N } σ H) (hB : ∀ σ' H', P σ' H' → D.nx σ' H') : A D σ H := h D.nx hB
/-- all but the pool and the tables stay -/
def Nx (pl : Addr) (H H' : Hp) : Prop := ∀ b o, b ≠ pl → H b = some o → (∀ ps, o ≠ .tbl ps) → H' b = some o
theorem Nx.refl {pl : Addr} {H : Hp} : Nx pl H H := fun _ _ _ h _ => h
theorem Nx.trans {pl : Addr} {H H1 H2 : Hp} (a : Nx pl H H1) (b : Nx pl H1 H2) : Nx pl H H2 := fun c o n h t => b c o n (a c o n h t) t
theorem Nx.same {pl : Addr} {H H' : Hp} (s : Same H H') : Nx pl H H' := fun b o _ h _ => s b o h
theorem Nx.ex {pl : Addr} {H H' : Hp} (s : Ex pl H H') : Nx pl H H' := fun b o n h _ => s b o n h
theorem Nx.ext {pl : Addr} {H H' : Hp} (s : ExtN H H') : Nx pl H H' := fun b o _ h t => s b o h t
theorem Nx.new {pl p : Addr} {H H' : Hp} {o : HO} (s : Nx pl H H') (h : H' p = none) : Nx pl H (upd H' p o) := s.trans (.same (Same.upd (Same.refl _) h))
structure Bs (T : List (Addr × Str)) (H0 : Hp) (pl : Addr) (H : Hp) : Prop where
  ext : ExtN H0 H
  pool : PoolAt H pl
  tabs : Tabs T H
  new : H0 pl = none ∨ ∃ ps, H0 pl = some (.tbl ps)
section
variable {T : List (Addr × Str)} {H0 H H' : Hp} {pl r : Addr}
theorem Bs.same (b : Bs T H0 pl H) (s : Same H H') : Bs T H0 pl H' := ⟨b.ext.trans (.of s), b.pool.same s, b.tabs.ext s, b.new⟩
theorem Bs.upd {p : Addr} {o : HO} (b : Bs T H0 pl H) (h : H p = none) : Bs T H0 pl (upd H p o) := b.same (Same.upd (Same.refl _) h)
theorem Bs.lam (b : Bs T H0 pl H) (e : ExtN H H') (t : Tabs T H') : Bs T H0 pl H' := by
  refine ⟨b.ext.trans e, ?_, t, b.new⟩
  obtain ⟨p, q, h⟩ := b.pool
  exact ⟨p, q, e _ _ h (fun ps z => by cases z)⟩
theorem Bs.ex (b : Bs T H0 pl H) (x : Ex pl H H') (hp : PoolAt H' pl) : Bs T H0 pl H' := by
  obtain ⟨p, q, h⟩ := b.pool
  refine ⟨fun c o hc ht => x c o (fun z => ?_) (b.ext c o hc ht), hp, fun t ht => ?_, b.new⟩
  · rw [z] at hc
    rcases b.new with n | ⟨ps, n⟩
    · rw [n] at hc
      cases hc
    · rw [n] at hc
      cases hc
      exact ht ps rfl
  · obtain ⟨ps, h1, h2, h3⟩ := b.tabs t ht
    refine ⟨ps, x _ _ (fun z => ?_) h1, h2, fun pos cv hc => ?_⟩
    · rw [z, h] at h1
      cases h1
    · obtain ⟨c, e1, e2⟩ := h3 pos cv hc
      refine ⟨c, e1, x _ _ (fun z => ?_) e2⟩
      rw [z, h] at e2
      unfold CodeO at e2
      cases e2
/-- a new address is not the pool's -/
theorem Bs.ne (b : Bs T H0 pl H) (h : H r = none) : r ≠ pl := b.pool.ne h
theorem PtAt.nx {p : Pt} (h : PtAt H r p) (b : PoolAt H pl) (x : Nx pl H H') : PtAt H' r p := by
  obtain ⟨i, j, e⟩ := b
  exact x _ _ (ne_of h e (fun z => by cases z)) h (fun ps z => by cases z)
theorem ArcAt.nx {K : Frag} {p q : Pt} (h : ArcAt K H r p q) (b : PoolAt H pl) (x : Nx pl H H') : ArcAt K H' r p q := by
  obtain ⟨dx, a, c, h1, h2, h3⟩ := h
  have bb := b
  obtain ⟨i, j, e⟩ := b
  exact ⟨dx, a, c, x _ _ (ne_of h1 e (fun z => by cases z)) h1 (fun ps z => by cases z), h2.nx bb x, h3.nx bb x⟩
end
theorem freeN {H H' : Hp} {p : Addr} (e : ExtN H H') (h : H' p = none) : H p = none ∨ ∃ ps, H p = some (.tbl ps) := by
  cases q : H p with
  | none => exact .inl rfl
  | some o =>
    by_cases ht : ∃ ps, o = .tbl ps
    · obtain ⟨ps, rfl⟩ := ht
      exact .inr ⟨ps, rfl⟩
    · have z := e p o q fun ps hz => ht ⟨ps, hz⟩
      rw [h] at z
      cases z
theorem seqN {K : Frag} {H H' : Hp} {a : Addr} {xs : List V} (h : SqL K H a xs) (e : ExtN H H') : SqL K H' a xs := by
  rcases h with (h | ⟨o, h⟩) | h
  · exact .inl (.inl (e _ _ h fun ps z => by cases z))
  · exact .inl (.inr ⟨o, e _ _ h fun ps z => by cases z⟩)
  · exact .inr h
theorem same_made {H : Hp} {x dx C : Addr} {o : HO} {fs : List (Str × V)} (nx : H x = none) (ndx : H dx = none) (ne : dx ≠ x) : Same H (upd (upd H dx o) x (.ins C dx fs)) := Same.upd (Same.upd (Same.refl _) ndx) (by rw [upd_ne ne.symm]; exact nx)
theorem sameOf {H H' : Hp} {p : Addr} {o : HO} (n : H p = none) (h : upd H p o = H') : Same H H' := by
  subst h
  exact Same.upd (Same.refl _) n
theorem atOf {H H' : Hp} {p : Addr} {o : HO} (h : upd H p o = H') : H' p = some o := by
  subst h
  exact upd_same
theorem PoolAt.ne' {H : Hp} {a b : Addr} {o : HO} (h : PoolAt H a) (hb : H b = none) : b ≠ a := h.ne hb
/-- an object that stays -/
theorem Nx.at {pl p : Addr} {H H' : Hp} {o : HO} (x : Nx pl H H') (h : H p = some o) (n : p ≠ pl) (t : ∀ ps, o ≠ .tbl ps := by intro ps z; cases z) : H' p = some o := x p o n h t
theorem madeOf {H H' : Hp} {x dx : Addr} {o o' : HO} (nx : H x = none) (ndx : H dx = none) (ne : dx ≠ x) (h : upd (upd H dx o) x o' = H') : Same H H' := by
  subst h
  exact Same.upd (Same.upd (Same.refl _) ndx) (by rw [upd_ne ne.symm]; exact nx)
end Ah

/-! repr(v) is z -/
namespace Ah
open PySem PySem.Spec PySem.W PySem.Calls PyProof.Rows L2 He
inductive Rp (K : Frag) (H : Hp) : V → Str → Prop
  | data {v : V} (d : PyData) (h : Dp K H v d) (h1 : d.showable = true) (h2 : d.hasDict = false) (h3 : d.depth ≤ 64) (h4 : d.shown.length ≤ sizeLine) : Rp K H v d.shown
  | edict {a : Addr} (h : H a = some (.dK [])) : Rp K H (.ref a) "{}"
def rReprV (K : Frag) : List V → Hp → VK → Prop := fun xs H Q => ∃ (x : V) (z : Str), xs = [x] ∧ Rp K H x z ∧ Q (.str z) H
theorem call_reprV {X : Cx} (hg : X.A.guards = some []) (hu : X.A.units + 99 < cLine) : CallR X (.builtin "repr") (rReprV X.K) := by
  intro pins s σ H xs us Q I r h
  obtain ⟨x, z, rfl, hx, q⟩ := h
  cases hx with
  | data d h h1 h2 h3 h4 => exact call_reprD hg hu pins s σ H _ us Q I r ⟨x, d, rfl, h, h1, h2, h3, h4, q⟩
  | @edict a h =>
    obtain ⟨u, rfl, ru⟩ := r.one
    cases (show u = Value.ref a from ru)
    obtain ⟨_, hsys, vs, kv, o, es, ep, ho, hx, hd, _, hp, _⟩ := I.hok a _ h
    have ev : vs = [] := by cases kv; rfl
    subst ev
    have ee : es = #[] := by
      have z : es.toList = [] := List.eq_nil_of_length_eq_zero hp.length
      exact Array.toList_eq_nil_iff.mp z
    subst ee
    have rd : Reads s.heap (.ref a) (.dict []) ([a] ++ []) := Reads.dict ho hx.1 hd .nil .nil
    have hs : (PyData.dict []).shown = ("{}" : Str) := by decide +kernel
    refine repr_of_reads' rd rfl (fun _ hm => ?_) hg (by show X.A.units + (1 + 1) < cLine; omega) (fun _ _ z => z) (fun h' t tk hk => ?_) (by rw [hs]; decide +kernel)
    · have : sysModules = a := by simpa using hm
      rw [this] at hsys
      simp at hsys
    · rw [hs]
      exact ⟨.str "{}", H, I.kept (t' := tk) hk, ⟨t, rfl⟩, q⟩
theorem call_reprVX {X : Cx} {a : Addr} {cls : Value} {d : Option Addr} {oe : Obj} {pn : List (Addr × Obj)} (hz : Zc cls d oe) (hg : (X.suite a ((a, oe) :: pn)).A.guards = some []) (hu : (X.suite a ((a, oe) :: pn)).A.units + 99 < cLine) : CallR (X.suite a ((a, oe) :: pn)) (.builtin "repr") (rReprV X.K) :=
  call_reprV hg hu
end Ah

/-! operators of own instances -/
namespace Ah
open PySem PySem.Spec PySem.W PySem.Calls PyProof.Rows L2 He
def Kn.least : Kn → Int → Bool
  | .int i, m => decide (m ≤ i)
  | _, _ => false
def Kn.isInt : Kn → Bool
  | .int _ => true
  | _ => false
theorem isInt_eq (k : Kn) : (k.isT "int" && !k.isT "bool") = k.isInt := by cases k <;> rfl
section
variable {X : Cx} {k j : Nat} {f C : Addr} {sp : Sp} {E : XK}
/-- len(x), x an instance of C with its own __len__ -/
def rLenO (C : Addr) (sp : Sp) (E : XK) : List V → Hp → VK → Prop := fun xs H Q => ∃ a dx fs, xs = [.ref a] ∧ H a = some (.ins C dx fs) ∧ sp [.ref a] H (fun z H' => ∃ n : Nat, z = .int n ∧ n < 2 ^ 62 ∧ Q (.int n) H') E
theorem call_lenO (hm : Meth X.K C "__len__" f) (G : FnB X.prog X.w X.K X.mg X.base k f sp) (hr : Rm j X.A) (hx : Passes (L2.CX X.prog X.w) X E) (hk : k + 1 ≤ j := by decide) : CallR X (.builtin "len") (rLenO C sp E) := by
  intro pins s σ H xs us Q I r h
  obtain ⟨a, dx, fs, rfl, ha, q⟩ := h
  obtain ⟨u, rfl, ru⟩ := r.one
  cases (show u = Value.ref a from ru)
  obtain ⟨mA, O, _⟩ := ins_get I.hok ha
  obtain ⟨od, J, _⟩ := O.look
  obtain ⟨m, Fr⟩ := I.fr
  have hr1 : Rm (k + 1) X.A := hr.mono hk
  refine len_K Fr I.mod.kin J hm.at_ hm.fn (wpAny_mono (wpAny_call (runB (us := [.ref a]) (vs := [.ref a]) G hr1.in1 I.env0.in1 hx I (.cons rfl .nil) q)) (fun w s' z => ?_) fun _ _ x => x)
  obtain ⟨z', H', I', rz, n, en, hn, qz⟩ := z
  subst en
  obtain ⟨t, e⟩ := (show ∃ t, w = Value.int n t from rz)
  subst e
  exact ⟨⟨by omega, by omega⟩, .int n, H', I'.tok _, ⟨_, rfl⟩, qz⟩
end
end Ah

/-! change logs: rows, and how they lie -/
namespace Ah
open PySem PySem.Spec PyProof.Rows L2 He
abbrev LRow : Type := Int × Str × Option Int × Option Int
def oV : Option Int → V
  | none => .non
  | some i => .int i
def oD : Option Int → PyData
  | none => .none
  | some i => .int i
theorem dpO {K : Frag} {H : Hp} (o : Option Int) : Dp K H (oV o) (oD o) := by
  cases o
  · exact .non
  · exact .int _
def rowV (r : LRow) : List V := [.int r.1, .str r.2.1, oV r.2.2.1, oV r.2.2.2]
def rowD (r : LRow) : PyData := .tuple [.int r.1, .str r.2.1, oD r.2.2.1, oD r.2.2.2]
/-- the rows lie at these addresses -/
inductive RowsAt (H : Hp) : List Addr → List LRow → Prop
  | nil : RowsAt H [] []
  | cons {a : Addr} {r : LRow} {as : List Addr} {rs : List LRow} (h : H a = some (.tup (rowV r))) (t : RowsAt H as rs) : RowsAt H (a :: as) (r :: rs)
/-- tuples stay -/
def Tk (H H' : Hp) : Prop := ∀ b xs, H b = some (.tup xs) → H' b = some (.tup xs)
theorem Tk.refl {H : Hp} : Tk H H := fun _ _ h => h
theorem Tk.trans {H H1 H2 : Hp} (a : Tk H H1) (b : Tk H1 H2) : Tk H H2 := fun c xs h => b c xs (a c xs h)
theorem Tk.same {H H' : Hp} (s : Same H H') : Tk H H' := fun b xs h => s b _ h
theorem Tk.ext {H H' : Hp} (s : LamX.ExtN H H') : Tk H H' := fun b xs h => s b _ h (fun ps z => by cases z)
theorem Tk.upd {H : Hp} {p : Addr} {o o' : HO} (h : H p = some o) (n : ∀ xs, o ≠ .tup xs) : Tk H (upd H p o') := fun b xs hb => by
  by_cases e : b = p
  · subst e
    rw [h] at hb
    exact absurd (Option.some.inj hb) (n xs)
  · rw [upd_ne e]
    exact hb
section
variable {H H' : Hp} {as bs : List Addr} {rs ss : List LRow}
theorem RowsAt.tk (h : RowsAt H as rs) (t : Tk H H') : RowsAt H' as rs := by
  induction h with
  | nil => exact .nil
  | cons h _ ih => exact .cons (t _ _ h) ih
theorem RowsAt.len (h : RowsAt H as rs) : as.length = rs.length := by
  induction h with
  | nil => rfl
  | cons _ _ ih => simp [ih]
theorem RowsAt.app (h : RowsAt H as rs) (g : RowsAt H bs ss) : RowsAt H (as ++ bs) (rs ++ ss) := by
  induction h with
  | nil => exact g
  | cons h _ ih => exact .cons h ih
theorem RowsAt.drop (h : RowsAt H as rs) (n : Nat) : RowsAt H (as.drop n) (rs.drop n) := by
  induction h generalizing n with
  | nil => simpa using RowsAt.nil
  | cons h t ih =>
    cases n with
    | zero => exact .cons h t
    | succ n => exact ih n
theorem RowsAt.at (h : RowsAt H as rs) {i : Nat} {a : Addr} (e : as[i]? = some a) : ∃ r, rs[i]? = some r ∧ H a = some (.tup (rowV r)) := by
  induction h generalizing i with
  | nil => simp at e
  | cons h t ih =>
    cases i with
    | zero =>
      simp at e
      subst e
      exact ⟨_, rfl, h⟩
    | succ i => exact ih (by simpa using e)
theorem RowsAt.at' (h : RowsAt H as rs) {i : Nat} {r : LRow} (e : rs[i]? = some r) : ∃ a, as[i]? = some a ∧ H a = some (.tup (rowV r)) := by
  induction h generalizing i with
  | nil => simp at e
  | cons h t ih =>
    cases i with
    | zero =>
      simp at e
      subst e
      exact ⟨_, rfl, h⟩
    | succ i => exact ih (by simpa using e)
theorem RowsAt.dps {K : Frag} (h : RowsAt H as rs) : DpAll K H (as.map V.ref) (rs.map rowD) := by
  induction h with
  | nil => exact .nil
  | cons h _ ih => exact .cons (.tup (SqT.of h) (.cons (.int _) (.cons (.str _) (.cons (dpO _) (.cons (dpO _) .nil))))) ih
end
/-- the texts of the rows can be laid -/
def RowsOk (rs : List LRow) : Prop := ∀ r ∈ rs, PyData.strOk r.2.1 = true
theorem canLay_row {r : LRow} (h : PyData.strOk r.2.1 = true) : PyData.canLay0 (rowD r) = true := by
  obtain ⟨m, k, o, n⟩ := r
  show (true && (PyData.strOk k && ((PyData.canLay0 (oD o)) && ((PyData.canLay0 (oD n)) && true)))) = true
  rw [show PyData.strOk k = true from h]
  cases o <;> cases n <;> rfl
theorem depth_row (r : LRow) : (rowD r).depth = 1 := by
  obtain ⟨m, k, o, n⟩ := r
  cases o <;> cases n <;> rfl
theorem canLay_rows : ∀ {rs : List LRow}, RowsOk rs → PyData.canLayAll0 (rs.map rowD) = true
  | [], _ => rfl
  | r :: rs, h => Bool.and_eq_true_iff.mpr ⟨canLay_row (h r (List.mem_cons_self)), canLay_rows fun q hq => h q (List.mem_cons_of_mem _ hq)⟩
theorem depth_rows : ∀ rs : List LRow, PyData.depthAll (rs.map rowD) ≤ 1
  | [] => by decide
  | r :: rs => by
    show max (rowD r).depth (PyData.depthAll (rs.map rowD)) ≤ 1
    rw [depth_row]
    have := depth_rows rs
    omega
theorem shaped_rows {rs : List LRow} (h : RowsOk rs) : SeqAt.shaped (.list (rs.map rowD)) = true := by
  refine Bool.and_eq_true_iff.mpr ⟨canLay_rows h, decide_eq_true ?_⟩
  show PyData.depthAll (rs.map rowD) + 1 ≤ 64
  have := depth_rows rs
  omega
theorem eqv_o (a b : Option Int) : PyData.eqv (oD a) (oD b) = decide (a = b) := by
  cases a <;> cases b
  · simp [oD, PyData.eqv]
  · simp [oD, PyData.eqv]
  · simp [oD, PyData.eqv]
  · simp only [oD, PyData.eqv]
    rw [Bool.eq_iff_iff]
    simp
theorem eqv_row (r s : LRow) : PyData.eqv (rowD r) (rowD s) = decide (r = s) := by
  obtain ⟨m, k, o, n⟩ := r
  obtain ⟨m', k', o', n'⟩ := s
  simp only [rowD, PyData.eqv, PyData.eqvAll, eqv_o]
  rw [Bool.eq_iff_iff]
  simp
theorem eqv_rows : ∀ rs ss : List LRow, PyData.eqvAll (rs.map rowD) (ss.map rowD) = decide (rs = ss)
  | [], [] => rfl
  | [], _ :: _ => rfl
  | _ :: _, [] => rfl
  | r :: rs, s :: ss => by
    show (PyData.eqv (rowD r) (rowD s) && PyData.eqvAll (rs.map rowD) (ss.map rowD)) = _
    rw [eqv_row, eqv_rows rs ss, Bool.eq_iff_iff]
    simp
/-- all but two addresses stay -/
def Ex2 (x y : Addr) (H H' : Hp) : Prop := ∀ b o, b ≠ x → b ≠ y → H b = some o → H' b = some o
theorem Ex2.refl {x y : Addr} {H : Hp} : Ex2 x y H H := fun _ _ _ _ h => h
theorem Ex2.trans {x y : Addr} {H H1 H2 : Hp} (a : Ex2 x y H H1) (b : Ex2 x y H1 H2) : Ex2 x y H H2 := fun c o n m h => b c o n m (a c o n m h)
theorem Ex2.same {x y : Addr} {H H' : Hp} (s : Same H H') : Ex2 x y H H' := fun b o _ _ h => s b o h
theorem Ex2.upd1 {x y : Addr} {H H' : Hp} {o : HO} (s : Ex2 x y H H') : Ex2 x y H (upd H' x o) := fun b p n m h => by
  rw [upd_ne n]
  exact s b p n m h
theorem Ex2.upd2 {x y : Addr} {H H' : Hp} {o : HO} (s : Ex2 x y H H') : Ex2 x y H (upd H' y o) := fun b p n m h => by
  rw [upd_ne m]
  exact s b p n m h
/-- a ChangeLog lies at x, its list at L -/
structure LogAt (K : Frag) (H : Hp) (x L : Addr) (b f : Int) (as : List Addr) (rs : List LRow) : Prop where
  ins : ∃ dx, H x = some (.ins (ga K "ChangeLog") dx [("own_bound", .int b), ("own_floor", .int f), ("own_changes", .ref L)])
  lst : H L = some (.lst (as.map V.ref))
  rows : RowsAt H as rs
  ok : RowsOk rs
  few : rs.length ≤ 100000
section
variable {K : Frag} {H H' : Hp} {x L : Addr} {b f : Int} {as : List Addr} {rs : List LRow}
theorem LogAt.same (h : LogAt K H x L b f as rs) (s : Same H H') : LogAt K H' x L b f as rs := by
  obtain ⟨⟨dx, h1⟩, h2, h3, h4, h5⟩ := h
  exact ⟨⟨dx, s _ _ h1⟩, s _ _ h2, h3.tk (.same s), h4, h5⟩
theorem LogAt.ne (h : LogAt K H x L b f as rs) : x ≠ L := by
  obtain ⟨⟨dx, h1⟩, h2, _, _, _⟩ := h
  exact ne_of h1 h2 (fun z => by cases z)
/-- the moment of the last row, or the floor -/
def lastOf (f : Int) (rs : List LRow) : Int := match rs.getLast? with
  | some r => r.1
  | none => f
end
theorem isList {K : Frag} {H : Hp} {L : Addr} {xs : List V} (h : H L = some (.lst xs)) : tyV K "list" (.ref L) H := .inl ⟨rfl, xs, SqL.of h⟩
end Ah

/-! states: a pool, tables, odd values -/
namespace Ah
open PySem PySem.Spec PyProof.Rows L2 He LamX
section
variable {T : List (Addr × Str)} {K : Frag} {H0 H H' : Hp} {pl r : Addr}
/-- tables stay where their objects stay -/
theorem tabs_keep (t : Tabs T H) (h : ∀ b o, H b = some o → ((∃ ps, o = .tbl ps) ∨ ∃ q, o = CodeO b q) → H' b = some o) : Tabs T H' := by
  intro p hp
  obtain ⟨ps, h1, h2, h3⟩ := t p hp
  refine ⟨ps, h _ _ h1 (.inl ⟨ps, rfl⟩), h2, fun pos cv hc => ?_⟩
  obtain ⟨c, e1, e2⟩ := h3 pos cv hc
  exact ⟨c, e1, h _ _ e2 (.inr ⟨_, rfl⟩)⟩
theorem tabs_ex {a : Addr} {o : HO} (t : Tabs T H) (x : Ex a H H') (ha : H a = some o) (n1 : ∀ ps, o ≠ .tbl ps) (n2 : ∀ q, o ≠ CodeO a q) : Tabs T H' :=
  tabs_keep t fun b o' hb hk => x b o' (fun z => by
    subst z
    rw [ha] at hb
    cases hb
    rcases hk with ⟨ps, e⟩ | ⟨q, e⟩
    · exact n1 ps e
    · exact n2 q e) hb
theorem tabs_ex2 {a c : Addr} {o o2 : HO} (t : Tabs T H) (x : Ex2 a c H H') (ha : H a = some o) (n1 : ∀ ps, o ≠ .tbl ps) (n2 : ∀ q, o ≠ CodeO a q) (hc : H c = some o2) (m1 : ∀ ps, o2 ≠ .tbl ps) (m2 : ∀ q, o2 ≠ CodeO c q) : Tabs T H' :=
  tabs_keep t fun b o' hb hk => x b o' (fun z => by
    subst z
    rw [ha] at hb
    cases hb
    rcases hk with ⟨ps, e⟩ | ⟨q, e⟩
    · exact n1 ps e
    · exact n2 q e) (fun z => by
    subst z
    rw [hc] at hb
    cases hb
    rcases hk with ⟨ps, e⟩ | ⟨q, e⟩
    · exact m1 ps e
    · exact m2 q e) hb
/-- what a def that draws and makes lambdas keeps -/
structure Sb (T : List (Addr × Str)) (pl : Addr) (H0 H : Hp) : Prop where
  nx : Nx pl H0 H
  pool : PoolAt H pl
  tabs : Tabs T H
theorem Sb.same (b : Sb T pl H0 H) (s : Same H H') : Sb T pl H0 H' := ⟨b.nx.trans (.same s), b.pool.same s, b.tabs.ext s⟩
theorem Sb.ex (b : Sb T pl H0 H) (x : Ex pl H H') (hp : PoolAt H' pl) : Sb T pl H0 H' := by
  obtain ⟨p, q, h⟩ := b.pool
  exact ⟨b.nx.trans (.ex x), hp, tabs_ex b.tabs x h (fun ps z => by cases z) (fun q z => by unfold CodeO at z; cases z)⟩
theorem Sb.lam (b : Sb T pl H0 H) (e : ExtN H H') (t : Tabs T H') : Sb T pl H0 H' := by
  obtain ⟨p, q, h⟩ := b.pool
  exact ⟨b.nx.trans (.ext e), ⟨p, q, e _ _ h (fun ps z => by cases z)⟩, t⟩
theorem Sb.ne (b : Sb T pl H0 H) (h : H r = none) : r ≠ pl := b.pool.ne h
theorem LogAt.nx {x L : Addr} {b f : Int} {as : List Addr} {rs : List LRow} (h : LogAt K H x L b f as rs) (p : PoolAt H pl) (n : L ≠ pl) (y : Nx pl H H') : LogAt K H' x L b f as rs := by
  obtain ⟨i, j, e⟩ := p
  obtain ⟨⟨dx, h1⟩, h2, h3, h4, h5⟩ := h
  refine ⟨⟨dx, y _ _ (ne_of h1 e (fun z => by cases z)) h1 (fun ps z => by cases z)⟩, y _ _ n h2 (fun ps z => by cases z), ?_, h4, h5⟩
  exact h3.tk fun c xs hc => y _ _ (ne_of hc e (fun z => by cases z)) hc (fun ps z => by cases z)
theorem LogAt.ext {x L : Addr} {b f : Int} {as : List Addr} {rs : List LRow} (h : LogAt K H x L b f as rs) (y : ExtN H H') : LogAt K H' x L b f as rs := by
  obtain ⟨⟨dx, h1⟩, h2, h3, h4, h5⟩ := h
  exact ⟨⟨dx, y _ _ h1 (fun ps z => by cases z)⟩, y _ _ h2 (fun ps z => by cases z), h3.tk (.ext y), h4, h5⟩
/-- an odd value: what it is, how it is shown -/
structure OdV (K : Frag) (pl : Addr) (H : Hp) (v : V) (k : Kn) (z : Str) : Prop where
  box : ∀ H', Nx pl H H' → Is K H' v k ∧ Rp K H' v z
  ok : PyData.strOk z = true
theorem OdV.nx {v : V} {k : Kn} {z : Str} (h : OdV K pl H v k z) (x : Nx pl H H') : OdV K pl H' v k z := ⟨fun H2 y => h.box H2 (x.trans y), h.ok⟩
/-- can be shown, in few signs -/
def PyData.plain (d : PyData) : Bool := d.showable && !d.hasDict && decide (d.depth ≤ 64) && decide (d.shown.length ≤ 1000) && PyData.strOk d.shown
theorem plain_rp {v : V} {d : PyData} (h : PyData.plain d = true) (hd : Dp K H v d) : Rp K H v d.shown := by
  unfold PyData.plain at h
  simp only [Bool.and_eq_true, decide_eq_true_eq, Bool.not_eq_true'] at h
  obtain ⟨⟨⟨⟨h1, h2⟩, h3⟩, h4⟩, h5⟩ := h
  exact .data d hd h1 h2 h3 (by rw [sizeLine_eq]; omega)
theorem plain_ok {d : PyData} (h : PyData.plain d = true) : PyData.strOk d.shown = true := by
  unfold PyData.plain at h
  simp only [Bool.and_eq_true, decide_eq_true_eq, Bool.not_eq_true'] at h
  exact h.2
theorem OdV.of {v : V} {k : Kn} (d : PyData) (h : PyData.plain d = true) (b : ∀ H', Nx pl H H' → Is K H' v k ∧ Dp K H' v d) : OdV K pl H v k d.shown := ⟨fun H' y => ⟨(b H' y).1, plain_rp h (b H' y).2⟩, plain_ok h⟩
theorem plain_small : ∀ n : Nat, n < 200 → PyData.plain (.int ((n : Int) - 10)) = true := by decide +kernel
theorem plain_int {i : Int} (h0 : -10 ≤ i) (h1 : i ≤ 180) : PyData.plain (.int i) = true := by
  have h := plain_small (i + 10).toNat (by omega)
  rwa [show (((i + 10).toNat : Nat) : Int) - 10 = i by omega] at h
theorem shapedTxt {z y : Str} (hz : PyData.strOk z = true) (hy : PyData.strOk y = true) : SeqAt.shaped (.list [.str z, .bool true, .str y]) = true := by
  refine Bool.and_eq_true_iff.mpr ⟨?_, decide_eq_true (show max 0 (max 0 (max 0 0)) + 1 ≤ 64 by decide)⟩
  show (PyData.strOk z && (true && (PyData.strOk y && true))) = true
  rw [hz, hy]
  rfl
theorem shapedInt {z : Str} {n : Int} (hz : PyData.strOk z = true) : SeqAt.shaped (.list [.str z, .bool true, .int n]) = true := by
  refine Bool.and_eq_true_iff.mpr ⟨?_, decide_eq_true (show max 0 (max 0 (max 0 0)) + 1 ≤ 64 by decide)⟩
  show (PyData.strOk z && (true && (true && true))) = true
  rw [hz]
  rfl
/-- the answer is the one that is due: != tells False -/
theorem neTxt {a b : Addr} {x z : Str} {Q : VK} (hx : PyData.strOk x = true) (hz : PyData.strOk z = true) (h1 : H a = some (.lst [.str x, .bl true, .str z])) (h2 : H b = some (.lst [.str x, .bl true, .str z])) (q : Q (.bl false) H) : rNeD K (.ref a) (.ref b) H Q :=
  neD_same (.list [.str x, .bool true, .str z]) (.lst (SqL.of h1) (.cons (.str _) (.cons (.bl _) (.cons (.str _) .nil)))) (.lst (SqL.of h2) (.cons (.str _) (.cons (.bl _) (.cons (.str _) .nil)))) (shapedTxt hx hz) q
theorem neInt {a b : Addr} {x : Str} {n : Int} {Q : VK} (hx : PyData.strOk x = true) (h1 : H a = some (.lst [.str x, .bl true, .int n])) (h2 : H b = some (.lst [.str x, .bl true, .int n])) (q : Q (.bl false) H) : rNeD K (.ref a) (.ref b) H Q :=
  neD_same (.list [.str x, .bool true, .int n]) (.lst (SqL.of h1) (.cons (.str _) (.cons (.bl _) (.cons (.int _) .nil)))) (.lst (SqL.of h2) (.cons (.str _) (.cons (.bl _) (.cons (.int _) .nil)))) (shapedInt hx) q
theorem eqTxt {a b : Addr} {x z : Str} {Q : VK} (hx : PyData.strOk x = true) (hz : PyData.strOk z = true) (h1 : H a = some (.lst [.str x, .bl true, .str z])) (h2 : H b = some (.lst [.str x, .bl true, .str z])) (q : Q (.bl true) H) : rEqD K (.ref a) (.ref b) H Q :=
  eqD_same (.list [.str x, .bool true, .str z]) (.lst (SqL.of h1) (.cons (.str _) (.cons (.bl _) (.cons (.str _) .nil)))) (.lst (SqL.of h2) (.cons (.str _) (.cons (.bl _) (.cons (.str _) .nil)))) (shapedTxt hx hz) q
end
end Ah

/-! own __getitem__, __setitem__, __contains__; dict(d) -/
namespace Ah
open PySem PySem.Spec PySem.W PySem.Calls PyProof.Rows L2 He
section
variable {X : Cx} {k j : Nat} {f C : Addr} {sp : Sp} {E : XK} {a b : Expr} {ta tb : TE} {pos : Pos}
/-- x[y], x an instance of C with its own __getitem__ -/
def rGetO (C : Addr) (sp : Sp) (E : XK) : R2 := fun x y H Q => ∃ a dx fs, x = .ref a ∧ H a = some (.ins C dx fs) ∧ sp [x, y] H Q E
theorem pe_ixO (hm : Meth X.K C "__getitem__" f) (hi : PySem.W.fnIn X.K f = true) (G : FnB X.prog X.w X.K X.mg X.base k f sp) (hr : Rm j X.A) (hx : Passes (L2.CX X.prog X.w) X E) (ha : PE X a ta) (hb : PE X b tb) (hk : k + 1 ≤ j := by decide)
    (hsl : ∀ v u, subscripted b true v u = runValue (.builtin "lifetime.subscript" ⟨[v, u], []⟩) := by intro _ _; rfl) : PE X (.Subscript a b pos) (tOp (rGetO C sp E) ta tb) := by
  refine ⟨fun pins s σ H Q I h => ?_⟩
  refine Subscript_ (binT ha hb I h fun v u s2 x y H2 I2 rx ry q => ?_)
  obtain ⟨p, dx, fs, rfl, hp, q⟩ := q
  cases (show v = Value.ref p from rx)
  obtain ⟨mA, O, _⟩ := ins_get I2.hok hp
  obtain ⟨od, J, _⟩ := O.look
  obtain ⟨m, Fr⟩ := I2.fr
  have hr1 : Rm (k + 1) X.A := hr.mono hk
  exact PySem.W.sub_K Fr I2.ok.mod.kin J hm.at_ hi hm.fn (wpAny_call (runB (us := [.ref p, u]) (vs := [.ref p, y]) G hr1.in1 I2.env0.in1 hx I2 (.cons rfl (.cons ry .nil)) q)) (hsl _ _)
/-- x[y] = v, x an instance of C with its own __setitem__ -/
def rSetO (C : Addr) (sp : Sp) (E : XK) : TSet := fun o i v H Q => ∃ a dx fs, o = .ref a ∧ H a = some (.ins C dx fs) ∧ sp [o, i, v] H (fun _ H' => Q H') E
theorem set_own (hm : Meth X.K C "__setitem__" f) (hq : PySem.W.noSeq X.K C = true) (G : FnB X.prog X.w X.K X.mg X.base k f sp) (hr : Rm j X.A) (hx : Passes (L2.CX X.prog X.w) X E) (hk : k ≤ j := by decide) : PSet X (rSetO C sp E) := by
  intro pins s σ H o i v ov iv u Q I ro ri rv h
  obtain ⟨p, dx, fs, rfl, hp, q⟩ := h
  cases (show ov = Value.ref p from ro)
  obtain ⟨mA, O, _⟩ := ins_get I.hok hp
  obtain ⟨od, J, _⟩ := O.look
  unfold setItem sequenceKey
  refine wpAny_holding (wpAny_bind (wpAny_bind (J.type.here ?_)))
  refine wpAny_bind ((PySem.W.anyM_none I.kIn hq).here ?_)
  rw [if_pos (show (!false) = true from rfl)]
  refine wpAny_pure (wpAny_bind (PySem.W.special_fn I.kIn J hm.at_ (beq_iff_eq.mp hm.fn) (wpAny_mono (wpAny_call (runB (us := [.ref p, iv, u]) (vs := [.ref p, i, v]) G (hr.mono hk) I.env0 hx I (.cons rfl (.cons ri (.cons rv .nil))) q)) (fun w s' z => ?_) fun _ _ z => z)))
  obtain ⟨z', H', I', rz, qz⟩ := z
  exact wpAny_pure ⟨H', I', qz⟩
/-- y in x, x an instance of C with its own __contains__ that answers a bool -/
def rInO (C : Addr) (sp : Sp) (E : XK) : R2 := fun y x H Q => ∃ a dx fs, x = .ref a ∧ H a = some (.ins C dx fs) ∧ sp [x, y] H (fun z H' => ∃ b, z = .bl b ∧ Q (.bl b) H') E
def rNotInO (C : Addr) (sp : Sp) (E : XK) : R2 := fun y x H Q => ∃ a dx fs, x = .ref a ∧ H a = some (.ins C dx fs) ∧ sp [x, y] H (fun z H' => ∃ b, z = .bl b ∧ Q (.bl (!b)) H') E
theorem op_inO (hm : Meth X.K C "__contains__" f) (G : FnB X.prog X.w X.K X.mg X.base k f sp) (hr : Rm j X.A) (hx : Passes (L2.CX X.prog X.w) X E) (hk : k ≤ j := by decide) : OpR X (compareOp .In) (rInO C sp E) := by
  intro pins s σ H y x u v Q I ry rx h
  obtain ⟨p, dx, fs, rfl, hp, q⟩ := h
  cases (show v = Value.ref p from rx)
  obtain ⟨mA, O, _⟩ := ins_get I.hok hp
  obtain ⟨od, J, _⟩ := O.look
  obtain ⟨m, Fr⟩ := I.fr
  refine PySem.W.in_K Fr I.ok.mod.kin J hm.at_ hm.fn (wpAny_mono (wpAny_call (runB (us := [.ref p, u]) (vs := [.ref p, y]) G (hr.mono hk) I.env0 hx I (.cons rfl (.cons ry .nil)) q)) (fun w s' z => ?_) fun _ _ z => z)
  obtain ⟨z', H', I', rz, b, eb, qz⟩ := z
  subst eb
  cases (show w = Value.bool b from rz)
  exact wpAny_truthy_bool ⟨.bl b, H', I', rfl, qz⟩
theorem op_notInO (hm : Meth X.K C "__contains__" f) (G : FnB X.prog X.w X.K X.mg X.base k f sp) (hr : Rm j X.A) (hx : Passes (L2.CX X.prog X.w) X E) (hk : k ≤ j := by decide) : OpR X (compareOp .NotIn) (rNotInO C sp E) := by
  intro pins s σ H y x u v Q I ry rx h
  obtain ⟨p, dx, fs, rfl, hp, q⟩ := h
  cases (show v = Value.ref p from rx)
  obtain ⟨mA, O, _⟩ := ins_get I.hok hp
  obtain ⟨od, J, _⟩ := O.look
  obtain ⟨m, Fr⟩ := I.fr
  refine PySem.W.notIn_K Fr I.ok.mod.kin J hm.at_ hm.fn (wpAny_mono (wpAny_call (runB (us := [.ref p, u]) (vs := [.ref p, y]) G (hr.mono hk) I.env0 hx I (.cons rfl (.cons ry .nil)) q)) (fun w s' z => ?_) fun _ _ z => z)
  obtain ⟨z', H', I', rz, b, eb, qz⟩ := z
  subst eb
  cases (show w = Value.bool b from rz)
  exact wpAny_truthy_bool ⟨.bl (!b), H', I', rfl, qz⟩
/-- dict(d) -/
def rDictC : List V → Hp → VK → Prop := fun xs H Q => ∃ (a : Addr) (kvs : List (Key × V)), xs = [.ref a] ∧ H a = some (.dK kvs) ∧ ∀ p, H p = none → Q (.ref p) (upd H p (.dK kvs))
theorem call_dictC : CallR X (.type "dict") rDictC := by
  intro pins s σ H xs us Q I r h
  obtain ⟨p, kvs, rfl, hp, q⟩ := h
  obtain ⟨u, rfl, ru⟩ := r.one
  cases (show u = Value.ref p from ru)
  exact d_copyOf I (.inl hp) fun p' s' hn I' => ⟨.ref p', _, I', rfl, q p' hn⟩
end
end Ah

/-! sorted of points -/
namespace Ah
open PySem PySem.Spec PySem.Calls PyProof.Rows L2 He SrtO
def IsPtO (h : Heap) (v : Value) (p : Pt) : Prop := ∃ a o t u n, v = .ref a ∧ h.get? a = some o ∧ o.cls = .type "tuple" ∧ o.data = .seq #[.int p.1 t, .str p.2 u] n
theorem IsPtO.keeps {h h' : Heap} {v : Value} {p : Pt} (x : IsPtO h v p) (k : ∀ b o, h.get? b = some o → o.cls = .type "tuple" → h'.get? b = some o) : IsPtO h' v p := by
  obtain ⟨a, o, t, u, n, e, ho, hc, hd⟩ := x
  exact ⟨a, o, t, u, n, e, k _ _ ho hc, hc, hd⟩
theorem ptLt_le {x y z : Pt} (h1 : ptLt y x = false) (h2 : ptLt z y = false) : ptLt z x = false := by
  cases e : ptLt z x with
  | false => rfl
  | true =>
    cases e2 : ptLt x y with
    | true =>
      rw [ptLt_trans e e2] at h2
      cases h2
    | false =>
      have := ptLt_total e2 h1
      subst this
      rw [e] at h2
      cases h2
theorem swo_pt {α : Type} (k : α → Pt) : Swo fun v u => ptLt (k v) (k u) := ⟨fun x y h => ptLt_asymm h, fun x y z h1 h2 => ptLt_le h1 h2⟩
section
variable {prog : Program} {w : World} {A : Around} {E : Value → Shared → Prop} {s : Shared}
theorem firstsP {h : Heap} {k : Value → Pt} : ∀ {vs : List Value}, (∀ v ∈ vs, IsPtO h v (k v)) → ∃ fs : List Value, PySem.W.KatTups h vs fs ∧ fs.length = vs.length ∧ ∀ f ∈ fs, ∃ x t, f = Value.int x t
  | [], _ => ⟨[], PySem.W.KatTups.nil, rfl, fun _ hm => by simp at hm⟩
  | v :: vs, hp => by
    obtain ⟨fs, h1, h2, h3⟩ := firstsP (vs := vs) fun v' hm => hp v' (List.mem_cons_of_mem _ hm)
    obtain ⟨a, o, t, u, n, e, ho, hc, hd⟩ := hp v (List.mem_cons_self ..)
    rw [e]
    refine ⟨.int (k v).1 t :: fs, PySem.W.KatTups.cons ho hc hd rfl h1, by rw [List.length_cons, List.length_cons, h2], fun f hm => ?_⟩
    rcases List.mem_cons.mp hm with rfl | hm
    · exact ⟨_, t, rfl⟩
    · exact h3 f hm
theorem pt_cmp {vs : List Value} {k : Value → Pt} (hp : ∀ v ∈ vs, IsPtO s.heap v (k v)) : Cmp prog w A s (tuples' true) (fun p => p.1 ∈ vs) (lt2 fun v u => ptLt (k v) (k u)) := by
  intro p q hm hm'
  have h1 := hp _ hm
  have h2 := hp _ hm'
  show wpAny (model prog w) A (keyLt' (tuples' true) p.1 q.1) (fun r s' => s' = s ∧ r = ptLt (k p.1) (k q.1)) (fun _ _ => False) s
  rw [ptLt_eq]
  obtain ⟨a, o, t, u, n, e, ho, hc, hd⟩ := h1
  obtain ⟨a', o', t', u', n', e', ho', hc', hd'⟩ := h2
  generalize (k p.1).1 = x at hd ⊢
  generalize (k p.1).2 = y at hd ⊢
  generalize (k q.1).1 = x' at hd' ⊢
  generalize (k q.1).2 = y' at hd' ⊢
  rw [e, e']
  refine PySem.W.kat_lt ho hd ho' hd' ?_
  show PySem.W.KatLex prog w A true (decide (2 < 2)) _ [(.int x t, .int x' t'), (.str y u, .str y' u')] 0 s
  refine PySem.W.kat_cons (SeqAt.EqAt.int_int x t x' t' prog w _ _ ?_)
  refine PySem.W.kat_go (fun e1 => ?_) (fun e1 => ?_)
  · have ex : x = x' := by simpa using e1
    refine PySem.W.kat_yes (PySem.W.kat_cons (SeqAt.EqAt.str_str y u y' u' prog w _ _ ?_))
    refine PySem.W.kat_go (fun e2 => ?_) (fun e2 => ?_)
    · have ey : y = y' := by simpa using e2
      refine PySem.W.kat_yes (PySem.W.kat_nil ⟨rfl, ?_⟩)
      subst ex ey
      simp
    · refine PySem.W.kat_no (PySem.W.kat_one _ _ (PyProof.Rows.lt_str ?_))
      refine (show s = s ∧ decide (y.cps.toList < y'.cps.toList) = _ from ⟨rfl, ?_⟩)
      subst ex
      simp
  · have ex : ¬ x = x' := by simpa using e1
    refine PySem.W.kat_no (oneLt_int ⟨rfl, ?_⟩)
    simp [ex]
theorem pts_sortable {a : Addr} {vs : List Value} {k : Value → Pt} (h0 : 0 < vs.length) (hp : ∀ v ∈ vs, IsPtO s.heap v (k v)) (ha : ∀ o, s.heap.get? a = some o → o.cls ≠ .type "tuple") : SortableO prog w A s a vs fun v u => ptLt (k v) (k u) := by
  intro h' keep
  have hp' : ∀ v ∈ vs, IsPtO h' v (k v) := fun v hm => (hp v hm).keeps fun b o e c => keep b o (fun z => by subst z; exact ha o e c) e
  obtain ⟨fs, h1, h2, h3⟩ := firstsP hp'
  refine ⟨tuples' true, fun Q E hq => ?_, pt_cmp hp'⟩
  refine PySem.W.kat_kind (T := .type "int") h1 (by omega) (fun f hm => ?_) (by rfl) ?_
  · obtain ⟨x, t, rfl⟩ := h3 f hm
    exact PySem.W.Looks.now
  · have e : (Value.type "int" != Value.type "tuple") = true := by first | decide +kernel | rfl | decide
    rw [e]
    exact hq
theorem sorted_pts {l : Addr} {vs : List Value} {k : Value → Pt} {Q : Value → Shared → Prop} (hl : s.heap.IsList l vs.toArray) (hz : vs.length ≤ sizeLine) (hp : ∀ v ∈ vs, IsPtO s.heap v (k v))
    (h : ∀ (h' : Heap) (d : Addr) (out : List Value), Srtd (fun v u => ptLt (k v) (k u)) out → Stb (fun v u => ptLt (k v) (k u)) out vs → (∀ b o, s.heap.get? b = some o → h'.get? b = some o) → s.heap.objs.size ≤ d → (∃ n, h'.get? d = some (seqObj "list" out.toArray n)) → Q (.ref d) { s with heap := h' }) :
    wpAny (model prog w) A (call (.builtin "sorted") [.ref l]) Q E s := by
  refine sorted_ord (swo_pt k) hl hz (fun h2 h₁ a ha kk => ?_) fun out hs hb => ?_
  · refine pts_sortable (s := { s with heap := h₁ }) (by omega) (fun v hm => (hp v hm).keeps fun b o e _ => (kk b o e).2) fun o e => ?_
    have e' : some o = some (seqObj "list" vs.toArray 0) := e.symm.trans ha
    cases e'
    intro c
    exact absurd (Value.type.inj c) (by decide)
  · exact h _ _ out hs hb (fun b o e => sortedAll_old e) (Nat.le_succ _) (sortedAll_at s.heap vs out.toArray)
end
/-- points lie at these addresses -/
inductive PtsAt (H : Hp) : List Addr → List Pt → Prop
  | nil : PtsAt H [] []
  | cons {a : Addr} {p : Pt} {as : List Addr} {ps : List Pt} (h : PtAt H a p) (t : PtsAt H as ps) : PtsAt H (a :: as) (p :: ps)
theorem PtsAt.tk {H H' : Hp} {as : List Addr} {ps : List Pt} (h : PtsAt H as ps) (t : Tk H H') : PtsAt H' as ps := by
  induction h with
  | nil => exact .nil
  | cons h _ ih => exact .cons (t _ _ h) ih
theorem PtsAt.len {H : Hp} {as : List Addr} {ps : List Pt} (h : PtsAt H as ps) : as.length = ps.length := by
  induction h with
  | nil => rfl
  | cons _ _ ih => simp [ih]
theorem PtsAt.at {H : Hp} {as : List Addr} {ps : List Pt} (h : PtsAt H as ps) {i : Nat} {a : Addr} (e : as[i]? = some a) : ∃ p, ps[i]? = some p ∧ PtAt H a p := by
  induction h generalizing i with
  | nil => simp at e
  | cons h t ih =>
    cases i with
    | zero =>
      simp at e
      subst e
      exact ⟨_, rfl, h⟩
    | succ i => exact ih (by simpa using e)
theorem PtsAt.app {H : Hp} {as bs : List Addr} {ps qs : List Pt} (h : PtsAt H as ps) (g : PtsAt H bs qs) : PtsAt H (as ++ bs) (ps ++ qs) := by
  induction h with
  | nil => exact g
  | cons h _ ih => exact .cons h ih
/-- the point at an address -/
noncomputable def ptOf (H : Hp) (a : Addr) : Pt := match H a with
  | some (.tup [.int i, .str z]) => (i, z)
  | _ => (0, Str.empty)
theorem ptOf_at {H : Hp} {a : Addr} {p : Pt} (h : PtAt H a p) : ptOf H a = p := by
  unfold ptOf
  rw [show H a = some (.tup [.int p.1, .str p.2]) from h]
theorem PtsAt.map {H : Hp} {as : List Addr} {ps : List Pt} (h : PtsAt H as ps) : as.map (ptOf H) = ps := by
  induction h with
  | nil => rfl
  | cons h _ ih => rw [List.map_cons, ih, ptOf_at h]
theorem PtsAt.of_mem {H : Hp} {as : List Addr} {ps : List Pt} (h : PtsAt H as ps) : ∀ a ∈ as, PtAt H a (ptOf H a) := by
  induction h with
  | nil => exact fun a ha => by cases ha
  | cons h _ ih =>
    intro a ha
    rcases List.mem_cons.mp ha with rfl | ha
    · rw [ptOf_at h]
      exact h
    · exact ih a ha
theorem ptsAt_map {H : Hp} : ∀ {as : List Addr}, (∀ a ∈ as, PtAt H a (ptOf H a)) → PtsAt H as (as.map (ptOf H))
  | [], _ => .nil
  | a :: as, h => .cons (h a (List.mem_cons_self)) (ptsAt_map fun b hb => h b (List.mem_cons_of_mem _ hb))
/-- sorted: no later point before an earlier one -/
def PtOrd (ps : List Pt) : Prop := ps.Pairwise fun a b => ptLt b a = false
theorem ptOrd_uniq : ∀ {l m : List Pt}, PtOrd l → PtOrd m → l.Perm m → l = m
  | [], m, _, _, h => (List.Perm.eq_nil h.symm).symm
  | x :: l, [], _, _, h => absurd h.length_eq (by simp)
  | x :: l, y :: m, hl, hm, h => by
    have a1 := List.pairwise_cons.mp hl
    have a2 := List.pairwise_cons.mp hm
    have e : x = y := by
      rcases List.mem_cons.mp (h.mem_iff.mp (List.mem_cons_self (a := x) (l := l))) with e | hx
      · exact e
      · rcases List.mem_cons.mp (h.mem_iff.mpr (List.mem_cons_self (a := y) (l := m))) with e | hy
        · exact e.symm
        · exact ptLt_total (a2.1 x hx) (a1.1 y hy)
    subst e
    rw [ptOrd_uniq a1.2 a2.2 h.cons_inv]
/-- sorted(l), l a list of points -/
def rSortPt (K : Frag) : List V → Hp → VK → Prop := fun vs H Q => ∃ (l : Addr) (as : List Addr) (ps : List Pt), vs = [.ref l] ∧ SqL K H l (as.map V.ref) ∧ PtsAt H as ps ∧
  ∀ r bs qs, H r = none → PtsAt H bs qs → qs.Perm ps → PtOrd qs → Q (.ref r) (upd H r (.lst (bs.map V.ref)))
theorem map_unref {l : List Value} {as : List Addr} (h : Vals (as.map V.ref) l) : l = as.map Value.ref := by
  induction as generalizing l with
  | nil => cases h; rfl
  | cons a as ih =>
    cases h with
    | cons h t =>
      cases h
      rw [ih t]
      rfl
theorem vals_refs : ∀ as : List Addr, Vals (as.map V.ref) (as.map Value.ref)
  | [] => .nil
  | _ :: as => .cons rfl (vals_refs as)
section
variable {X : Cx}
theorem cr_sortPt : CallR X (.builtin "sorted") (rSortPt X.K) := by
  intro pins s σ H vs us Q I r h
  obtain ⟨l, as, ps, rfl, hs, hp, q⟩ := h
  obtain ⟨its, rv, hl, hz⟩ := I.list hs
  obtain ⟨u, rfl, ru⟩ := r.one
  obtain rfl : u = Value.ref l := ru
  have ei := map_unref rv
  subst ei
  let k : Value → Pt := fun v => match v with | .ref a => ptOf H a | _ => (0, Str.empty)
  have hk : ∀ v ∈ as.map Value.ref, IsPtO s.heap v (k v) := fun v hv => by
    obtain ⟨a, ha, rfl⟩ := List.mem_map.mp hv
    obtain ⟨_, its2, r2, o, ho, hc, n, hd⟩ := I.hok _ _ (hp.of_mem a ha)
    obtain ⟨u1, u2, rfl, ri, rj⟩ := vals2 r2
    obtain ⟨t1, rfl⟩ := ri
    obtain ⟨t2, rfl⟩ := rj
    exact ⟨a, o, t1, t2, n, rfl, ho, hc, hd⟩
  refine sorted_pts (k := k) hl.isList (by rw [← rv.length]; exact hz) hk fun h' d out h1 h2 kp hd hn => ?_
  obtain ⟨bs, rfl⟩ : ∃ bs : List Addr, out = bs.map Value.ref := by
    have hm : ∀ u ∈ out, ∃ a, u = Value.ref a := fun u hu => by
      obtain ⟨a, _, e⟩ := List.mem_map.mp (h2.perm.mem_iff.mp hu)
      exact ⟨a, e.symm⟩
    clear h1 h2 hn
    induction out with
    | nil => exact ⟨[], rfl⟩
    | cons u out ih =>
      obtain ⟨a, rfl⟩ := hm u (List.mem_cons_self)
      obtain ⟨bs, rfl⟩ := ih fun v hv => hm v (List.mem_cons_of_mem _ hv)
      exact ⟨a :: bs, rfl⟩
  have pm : bs.Perm as := by
    have z := h2.perm.map (fun v : Value => match v with | .ref a => a | _ => 0)
    rw [List.map_map, List.map_map] at z
    simpa [Function.comp_def] using z
  obtain ⟨n, hn⟩ := hn
  refine ⟨.ref d, upd H d (.lst (bs.map V.ref)), I.laid (t' := s.toks) kp hd ⟨?_, bs.map Value.ref, n, vals_refs bs, hn⟩, rfl, q d bs (bs.map (ptOf H)) (I.hok.fresh hd) (ptsAt_map fun a ha => hp.of_mem a (pm.mem_iff.mp ha)) ?_ ?_⟩
  · rw [List.length_map, pm.length_eq]
    rw [List.length_map] at hz
    exact hz
  · rw [← hp.map]
    exact pm.map _
  · have z : List.Pairwise _ (bs.map Value.ref) := h1
    rw [List.pairwise_map] at z
    unfold PtOrd
    rw [List.pairwise_map]
    exact z
end
end Ah

/-! max and min of two points -/
namespace Ah
open PySem PySem.Spec PySem.Calls PyProof.Rows L2 He

theorem max_loop_two {prog : Program} {w : World} {A : Around} {R : Result → Shared → Prop} {I : Addr} {fp wr : List Addr} {P : Nat → Value → Prop} {St : Nat → Heap → Prop} {h0 : Heap} {a b : Value} {c0 : Bool}
    (W : Walks prog w A.in1 I fp wr 2 P St) (S : Addr) (hSf : S ∉ fp) (hw0 : ∀ x ∈ wr, h0.get? x = none) (hS0 : h0.get? S = none) (hPa : ∀ v, P 0 v → v = a) (hPb : ∀ v, P 1 v → v = b)
    (hcmp : ∀ (s' : Shared) (Q' : Value → Shared → Prop) (E' : Value → Shared → Prop), (∀ x o, h0.get? x = some o → s'.heap.get? x = some o) → Q' (.bool c0) s' → wpAny (model prog w) A.in1 (richCompare .Gt b a) Q' E' s')
    {s : Shared} {c : Nat} (hk0 : ∀ x o, h0.get? x = some o → s.heap.get? x = some o) (hst : St 0 s.heap) (hS : s.heap.get? S = some { cls := .type "list", dict := none, data := .seq #[] c, slots := #[] })
    (hR : ∀ h' tk, (∀ x o, h0.get? x = some o → h'.get? x = some o) → R (.ok (.ret (if c0 then b else a))) { s with heap := h', toks := tk }) :
    codeAny (model prog w) A (.builtin "max.loop" ⟨[.ref I, .none, .ref S], []⟩) R s := by
  have hSw : S ∉ wr := fun h => hSf (W.sub _ h)
  have hname : (toString "max" ++ toString ".loop" : String) = "max.loop" := by decide
  -- the end
  have fin : ∀ (s2 : Shared) (v : Value) (c2 : Nat), (∀ x o, h0.get? x = some o → s2.heap.get? x = some o) → St 2 s2.heap → s2.heap.get? S = some { cls := .type "list", dict := none, data := .seq #[v, v] c2, slots := #[] } → (∀ h' tk, (∀ x o, h0.get? x = some o → h'.get? x = some o) → R (.ok (.ret v)) { s2 with heap := h', toks := tk }) → codeAny (model prog w) A (.builtin "max.loop" ⟨[.ref I, .none, .ref S], []⟩) R s2 := by
    intro s2 v c2 hk2 st2 hS2 hR2
    refine codeAny_builtin F.entry_max_loop ?_
    rw [Around.under_plainId F.plain_max_loop _]
    show wpAny _ A.in1 (seqItems? (.ref S) >>= _) _ _ s2
    refine wpAny_bind (wpAny_seqItems hS2 rfl ?_)
    show wpAny _ A.in1 (tryCatch (pyNext (.ref I)) _ >>= _) _ _ s2
    refine wpAny_bind (wpAny_tryCatch (W.done s2 _ _ st2 fun h' tk hk' => ?_))
    have hS' := hk' S _ hSw hS2
    show wpAny _ A.in1 (updateSeq S (fun _ => #[]) >>= _) _ _ _
    refine wpAny_bind ?_
    refine wpAny_updateSeq hS' rfl (wpAny_bind (wpAny_letGo (wpAny_pure ?_)))
    refine hR2 _ tk fun x o e => (Heap.get?_update_other _ _ (fun z : S = x => by rw [← z, hS0] at e; cases e)).trans (hk' x o (fun z => by rw [hw0 x z] at e; cases e) (hk2 x o e))
  refine codeAny_builtin F.entry_max_loop ?_
  rw [Around.under_plainId F.plain_max_loop _]
  show wpAny _ A.in1 (seqItems? (.ref S) >>= _) _ _ s
  refine wpAny_bind (wpAny_seqItems hS rfl ?_)
  show wpAny _ A.in1 (tryCatch (pyNext (.ref I)) _ >>= _) _ _ s
  refine wpAny_bind (wpAny_tryCatch (W.item 0 s _ _ (by decide) hst fun v h1 tk1 hP st1 hk1 => ?_))
  obtain rfl := hPa v hP
  have hS1 := hk1 S _ hSw hS
  show wpAny _ A.in1 (updateSeq S (fun _ => #[v, v]) >>= _) _ _ _
  refine wpAny_bind ?_
  refine wpAny_updateSeq hS1 rfl ?_
  rw [hname]
  refine wpAny_pure ⟨plainId_quiet F.plain_max_loop _, ?_⟩
  have hkA : ∀ x o, h0.get? x = some o → h1.get? x = some o := fun x o e => hk1 x o (fun z => by rw [hw0 x z] at e; cases e) (hk0 x o e)
  have hSA := Heap.get?_update_self (h := h1) (Obj.mapSeq (fun _ => #[v, v])) hS1 rfl
  have stA : St 1 (h1.update S (Obj.mapSeq (fun _ => #[v, v]))) := W.frame _ _ _ st1 fun x hx o e => (Heap.get?_update_other _ _ (fun h : S = x => hSf (by rw [h]; exact hx))).trans e
  have hkB : ∀ x o, h0.get? x = some o → (h1.update S (Obj.mapSeq (fun _ => #[v, v]))).get? x = some o := fun x o e => (Heap.get?_update_other _ _ (fun z : S = x => by rw [← z, hS0] at e; cases e)).trans (hkA x o e)
  generalize hgB : h1.update S (Obj.mapSeq (fun _ => #[v, v])) = hB at hSA stA hkB
  -- the second
  refine codeAny_builtin F.entry_max_loop ?_
  rw [Around.under_plainId F.plain_max_loop _]
  show wpAny _ A.in1 (seqItems? (.ref S) >>= _) _ _ _
  refine wpAny_bind (wpAny_seqItems (by first | exact hSA | (rw [← hgB] at hSA; exact hSA)) rfl ?_)
  show wpAny _ A.in1 (tryCatch (pyNext (.ref I)) _ >>= _) _ _ _
  refine wpAny_bind (wpAny_tryCatch (W.item 1 _ _ _ (by decide) (by first | exact stA | (rw [← hgB] at stA; exact stA)) fun u h2 tk2 hP2 st2 hk2 => ?_))
  obtain rfl := hPb u hP2
  have hS2 := hk2 S _ hSw (by first | exact hSA | (rw [← hgB] at hSA; exact hSA))
  have hkC : ∀ x o, h0.get? x = some o → h2.get? x = some o := fun x o e => hk2 x o (fun z => by rw [hw0 x z] at e; cases e) (by first | exact hkB x o e | (rw [← hgB] at hkB; exact hkB x o e))
  show wpAny _ A.in1 (tryCatch (holding [u, u] (richCompare .Gt u v >>= _)) _ >>= _) _ _ _
  refine wpAny_bind (wpAny_tryCatch (wpAny_holding (wpAny_bind (hcmp _ _ _ hkC ?_))))
  refine wpAny_bind (wpAny_holding (wpAny_truthy_bool ?_))
  refine wpAny_bind (wpAny_letGo (wpAny_pure ?_))
  cases c0 with
  | true =>
    simp only [if_true]
    refine wpAny_bind ?_
    refine wpAny_updateSeq hS2 rfl (wpAny_bind (wpAny_letGo ?_))
    rw [hname]
    refine wpAny_pure ⟨plainId_quiet F.plain_max_loop _, fin _ u _ (fun x o e => (Heap.get?_update_other _ _ (fun z : S = x => by rw [← z, hS0] at e; cases e)).trans (hkC x o e)) (W.frame _ _ _ st2 fun x hx o e => (Heap.get?_update_other _ _ (fun h : S = x => hSf (by rw [h]; exact hx))).trans e) (Heap.get?_update_self _ hS2 rfl) fun h' tk hk => ?_⟩
    exact hR h' tk hk
  | false =>
    simp only [Bool.false_eq_true, if_false]
    refine wpAny_bind (wpAny_letGo ?_)
    rw [hname]
    refine wpAny_pure ⟨plainId_quiet F.plain_max_loop _, fin _ v _ hkC st2 hS2 fun h' tk hk => ?_⟩
    exact hR h' tk hk
theorem max_two_on {prog : Program} {w : World} {A : Around} {E : Value → Shared → Prop} {s : Shared} {a b : Value} {c0 : Bool} {Q : Value → Shared → Prop} (hh : A.handled = none)
    (hcmp : ∀ (s' : Shared) (Q' : Value → Shared → Prop) (E' : Value → Shared → Prop), (∀ x o, s.heap.get? x = some o → s'.heap.get? x = some o) → Q' (.bool c0) s' → wpAny (model prog w) A.in1 (richCompare .Gt b a) Q' E' s')
    (h : ∀ h' tk, (∀ x o, s.heap.get? x = some o → h'.get? x = some o) → Q (if c0 then b else a) { s with heap := h', toks := tk }) : wpAny (model prog w) A (call (.builtin "max") [a, b]) Q E s := by
  have hname : (toString "max" ++ toString ".loop" : String) = "max.loop" := by decide
  have hT : (s.heap.push { cls := .type "tuple", data := .seq #[a, b] }).IsTuple s.heap.objs.size #[a, b] := ⟨_, Heap.get?_push_size _ rfl, rfl, 0, rfl⟩
  have hsz : (s.heap.push { cls := .type "tuple", data := .seq #[a, b] }).objs.size = s.heap.objs.size + 1 := Heap.size_push ..
  refine call_function_tree F.kind_max F.plain_max F.entry_max (F.args_max2 _ _) ?_
  show wpAny _ A.in1 (Builtin.Builtins.bindParams "max" ["key", "default"] 0 ⟨[], []⟩ >>= _) _ _ s
  refine wpAny_bind (wpAny_of_eq (show Builtin.Builtins.bindParams "max" ["key", "default"] 0 ⟨[], []⟩ = pure [none, none] from rfl) ?_)
  show wpAny _ A.in1 (newTuple [a, b] >>= _) _ _ s
  refine wpAny_bind (wpAny_newObj_type ?_)
  refine wpAny_bind (wpAny_pyIter_tuple hT ?_)
  refine wpAny_bind (wpAny_newObj_type ?_)
  rw [hname]
  have nos : ∀ x, s.heap.objs.size ≤ x → s.heap.get? x = none := fun x hx => by
    cases e : s.heap.get? x with
    | none => rfl
    | some o => exact absurd (Heap.lt_size e) (Nat.not_lt.mpr hx)
  refine wpAny_pure ⟨plainId_quiet F.plain_max_loop _, max_loop_two (h0 := s.heap) (Walks.tuple (A := A.in1) hh _ s.heap.objs.size (by rw [hsz]; exact Nat.ne_of_lt (Nat.lt_succ_self _)) #[a, b]) _ (fun hm => ?_) (fun x hx => ?_) (nos _ ?_) (fun v hv => by simpa using hv.symm) (fun v hv => by simpa using hv.symm) hcmp (fun x o e => ?_) ?_ (Heap.get?_push_size _ rfl) fun h' tk hk => h h' tk hk⟩
  · rcases List.mem_cons.mp hm with e | hm
    · dsimp only at e
      rw [Heap.size_push] at e
      exact absurd e (Nat.succ_ne_self _)
    · have e := List.mem_singleton.mp hm
      dsimp only at e
      rw [Heap.size_push, hsz] at e
      exact absurd e (show s.heap.objs.size + 1 + 1 ≠ s.heap.objs.size from fun z => by
        have z' : (s.heap.objs.size : Nat) + 2 = s.heap.objs.size := z
        omega)
  · rw [List.mem_singleton.mp hx, hsz]
    exact nos _ (Nat.le_succ _)
  · rw [Heap.size_push, hsz]
    omega
  · exact Heap.get?_push_of_some _ (Heap.get?_push_of_some _ (Heap.get?_push_of_some _ e))
  · exact ⟨⟨_, Heap.get?_push_of_some _ (Heap.get?_push_size _ rfl), rfl, rfl⟩, (hT.push _).push _⟩

theorem min_loop_two {prog : Program} {w : World} {A : Around} {R : Result → Shared → Prop} {I : Addr} {fp wr : List Addr} {P : Nat → Value → Prop} {St : Nat → Heap → Prop} {h0 : Heap} {a b : Value} {c0 : Bool}
    (W : Walks prog w A.in1 I fp wr 2 P St) (S : Addr) (hSf : S ∉ fp) (hw0 : ∀ x ∈ wr, h0.get? x = none) (hS0 : h0.get? S = none) (hPa : ∀ v, P 0 v → v = a) (hPb : ∀ v, P 1 v → v = b)
    (hcmp : ∀ (s' : Shared) (Q' : Value → Shared → Prop) (E' : Value → Shared → Prop), (∀ x o, h0.get? x = some o → s'.heap.get? x = some o) → Q' (.bool c0) s' → wpAny (model prog w) A.in1 (richCompare .Lt b a) Q' E' s')
    {s : Shared} {c : Nat} (hk0 : ∀ x o, h0.get? x = some o → s.heap.get? x = some o) (hst : St 0 s.heap) (hS : s.heap.get? S = some { cls := .type "list", dict := none, data := .seq #[] c, slots := #[] })
    (hR : ∀ h' tk, (∀ x o, h0.get? x = some o → h'.get? x = some o) → R (.ok (.ret (if c0 then b else a))) { s with heap := h', toks := tk }) :
    codeAny (model prog w) A (.builtin "min.loop" ⟨[.ref I, .none, .ref S], []⟩) R s := by
  have hSw : S ∉ wr := fun h => hSf (W.sub _ h)
  have hname : (toString "min" ++ toString ".loop" : String) = "min.loop" := by decide
  -- the end
  have fin : ∀ (s2 : Shared) (v : Value) (c2 : Nat), (∀ x o, h0.get? x = some o → s2.heap.get? x = some o) → St 2 s2.heap → s2.heap.get? S = some { cls := .type "list", dict := none, data := .seq #[v, v] c2, slots := #[] } → (∀ h' tk, (∀ x o, h0.get? x = some o → h'.get? x = some o) → R (.ok (.ret v)) { s2 with heap := h', toks := tk }) → codeAny (model prog w) A (.builtin "min.loop" ⟨[.ref I, .none, .ref S], []⟩) R s2 := by
    intro s2 v c2 hk2 st2 hS2 hR2
    refine codeAny_builtin F.entry_min_loop ?_
    rw [Around.under_plainId F.plain_min_loop _]
    show wpAny _ A.in1 (seqItems? (.ref S) >>= _) _ _ s2
    refine wpAny_bind (wpAny_seqItems hS2 rfl ?_)
    show wpAny _ A.in1 (tryCatch (pyNext (.ref I)) _ >>= _) _ _ s2
    refine wpAny_bind (wpAny_tryCatch (W.done s2 _ _ st2 fun h' tk hk' => ?_))
    have hS' := hk' S _ hSw hS2
    show wpAny _ A.in1 (updateSeq S (fun _ => #[]) >>= _) _ _ _
    refine wpAny_bind ?_
    refine wpAny_updateSeq hS' rfl (wpAny_bind (wpAny_letGo (wpAny_pure ?_)))
    refine hR2 _ tk fun x o e => (Heap.get?_update_other _ _ (fun z : S = x => by rw [← z, hS0] at e; cases e)).trans (hk' x o (fun z => by rw [hw0 x z] at e; cases e) (hk2 x o e))
  refine codeAny_builtin F.entry_min_loop ?_
  rw [Around.under_plainId F.plain_min_loop _]
  show wpAny _ A.in1 (seqItems? (.ref S) >>= _) _ _ s
  refine wpAny_bind (wpAny_seqItems hS rfl ?_)
  show wpAny _ A.in1 (tryCatch (pyNext (.ref I)) _ >>= _) _ _ s
  refine wpAny_bind (wpAny_tryCatch (W.item 0 s _ _ (by decide) hst fun v h1 tk1 hP st1 hk1 => ?_))
  obtain rfl := hPa v hP
  have hS1 := hk1 S _ hSw hS
  show wpAny _ A.in1 (updateSeq S (fun _ => #[v, v]) >>= _) _ _ _
  refine wpAny_bind ?_
  refine wpAny_updateSeq hS1 rfl ?_
  rw [hname]
  refine wpAny_pure ⟨plainId_quiet F.plain_min_loop _, ?_⟩
  have hkA : ∀ x o, h0.get? x = some o → h1.get? x = some o := fun x o e => hk1 x o (fun z => by rw [hw0 x z] at e; cases e) (hk0 x o e)
  have hSA := Heap.get?_update_self (h := h1) (Obj.mapSeq (fun _ => #[v, v])) hS1 rfl
  have stA : St 1 (h1.update S (Obj.mapSeq (fun _ => #[v, v]))) := W.frame _ _ _ st1 fun x hx o e => (Heap.get?_update_other _ _ (fun h : S = x => hSf (by rw [h]; exact hx))).trans e
  have hkB : ∀ x o, h0.get? x = some o → (h1.update S (Obj.mapSeq (fun _ => #[v, v]))).get? x = some o := fun x o e => (Heap.get?_update_other _ _ (fun z : S = x => by rw [← z, hS0] at e; cases e)).trans (hkA x o e)
  generalize hgB : h1.update S (Obj.mapSeq (fun _ => #[v, v])) = hB at hSA stA hkB
  -- the second
  refine codeAny_builtin F.entry_min_loop ?_
  rw [Around.under_plainId F.plain_min_loop _]
  show wpAny _ A.in1 (seqItems? (.ref S) >>= _) _ _ _
  refine wpAny_bind (wpAny_seqItems (by first | exact hSA | (rw [← hgB] at hSA; exact hSA)) rfl ?_)
  show wpAny _ A.in1 (tryCatch (pyNext (.ref I)) _ >>= _) _ _ _
  refine wpAny_bind (wpAny_tryCatch (W.item 1 _ _ _ (by decide) (by first | exact stA | (rw [← hgB] at stA; exact stA)) fun u h2 tk2 hP2 st2 hk2 => ?_))
  obtain rfl := hPb u hP2
  have hS2 := hk2 S _ hSw (by first | exact hSA | (rw [← hgB] at hSA; exact hSA))
  have hkC : ∀ x o, h0.get? x = some o → h2.get? x = some o := fun x o e => hk2 x o (fun z => by rw [hw0 x z] at e; cases e) (by first | exact hkB x o e | (rw [← hgB] at hkB; exact hkB x o e))
  show wpAny _ A.in1 (tryCatch (holding [u, u] (richCompare .Lt u v >>= _)) _ >>= _) _ _ _
  refine wpAny_bind (wpAny_tryCatch (wpAny_holding (wpAny_bind (hcmp _ _ _ hkC ?_))))
  refine wpAny_bind (wpAny_holding (wpAny_truthy_bool ?_))
  refine wpAny_bind (wpAny_letGo (wpAny_pure ?_))
  cases c0 with
  | true =>
    simp only [if_true]
    refine wpAny_bind ?_
    refine wpAny_updateSeq hS2 rfl (wpAny_bind (wpAny_letGo ?_))
    rw [hname]
    refine wpAny_pure ⟨plainId_quiet F.plain_min_loop _, fin _ u _ (fun x o e => (Heap.get?_update_other _ _ (fun z : S = x => by rw [← z, hS0] at e; cases e)).trans (hkC x o e)) (W.frame _ _ _ st2 fun x hx o e => (Heap.get?_update_other _ _ (fun h : S = x => hSf (by rw [h]; exact hx))).trans e) (Heap.get?_update_self _ hS2 rfl) fun h' tk hk => ?_⟩
    exact hR h' tk hk
  | false =>
    simp only [Bool.false_eq_true, if_false]
    refine wpAny_bind (wpAny_letGo ?_)
    rw [hname]
    refine wpAny_pure ⟨plainId_quiet F.plain_min_loop _, fin _ v _ hkC st2 hS2 fun h' tk hk => ?_⟩
    exact hR h' tk hk
theorem min_two_on {prog : Program} {w : World} {A : Around} {E : Value → Shared → Prop} {s : Shared} {a b : Value} {c0 : Bool} {Q : Value → Shared → Prop} (hh : A.handled = none)
    (hcmp : ∀ (s' : Shared) (Q' : Value → Shared → Prop) (E' : Value → Shared → Prop), (∀ x o, s.heap.get? x = some o → s'.heap.get? x = some o) → Q' (.bool c0) s' → wpAny (model prog w) A.in1 (richCompare .Lt b a) Q' E' s')
    (h : ∀ h' tk, (∀ x o, s.heap.get? x = some o → h'.get? x = some o) → Q (if c0 then b else a) { s with heap := h', toks := tk }) : wpAny (model prog w) A (call (.builtin "min") [a, b]) Q E s := by
  have hname : (toString "min" ++ toString ".loop" : String) = "min.loop" := by decide
  have hT : (s.heap.push { cls := .type "tuple", data := .seq #[a, b] }).IsTuple s.heap.objs.size #[a, b] := ⟨_, Heap.get?_push_size _ rfl, rfl, 0, rfl⟩
  have hsz : (s.heap.push { cls := .type "tuple", data := .seq #[a, b] }).objs.size = s.heap.objs.size + 1 := Heap.size_push ..
  refine call_function_tree F.kind_min F.plain_min F.entry_min (F.args_min2 _ _) ?_
  show wpAny _ A.in1 (Builtin.Builtins.bindParams "min" ["key", "default"] 0 ⟨[], []⟩ >>= _) _ _ s
  refine wpAny_bind (wpAny_of_eq (show Builtin.Builtins.bindParams "min" ["key", "default"] 0 ⟨[], []⟩ = pure [none, none] from rfl) ?_)
  show wpAny _ A.in1 (newTuple [a, b] >>= _) _ _ s
  refine wpAny_bind (wpAny_newObj_type ?_)
  refine wpAny_bind (wpAny_pyIter_tuple hT ?_)
  refine wpAny_bind (wpAny_newObj_type ?_)
  rw [hname]
  have nos : ∀ x, s.heap.objs.size ≤ x → s.heap.get? x = none := fun x hx => by
    cases e : s.heap.get? x with
    | none => rfl
    | some o => exact absurd (Heap.lt_size e) (Nat.not_lt.mpr hx)
  refine wpAny_pure ⟨plainId_quiet F.plain_min_loop _, min_loop_two (h0 := s.heap) (Walks.tuple (A := A.in1) hh _ s.heap.objs.size (by rw [hsz]; exact Nat.ne_of_lt (Nat.lt_succ_self _)) #[a, b]) _ (fun hm => ?_) (fun x hx => ?_) (nos _ ?_) (fun v hv => by simpa using hv.symm) (fun v hv => by simpa using hv.symm) hcmp (fun x o e => ?_) ?_ (Heap.get?_push_size _ rfl) fun h' tk hk => h h' tk hk⟩
  · rcases List.mem_cons.mp hm with e | hm
    · dsimp only at e
      rw [Heap.size_push] at e
      exact absurd e (Nat.succ_ne_self _)
    · have e := List.mem_singleton.mp hm
      dsimp only at e
      rw [Heap.size_push, hsz] at e
      exact absurd e (show s.heap.objs.size + 1 + 1 ≠ s.heap.objs.size from fun z => by
        have z' : (s.heap.objs.size : Nat) + 2 = s.heap.objs.size := z
        omega)
  · rw [List.mem_singleton.mp hx, hsz]
    exact nos _ (Nat.le_succ _)
  · rw [Heap.size_push, hsz]
    omega
  · exact Heap.get?_push_of_some _ (Heap.get?_push_of_some _ (Heap.get?_push_of_some _ e))
  · exact ⟨⟨_, Heap.get?_push_of_some _ (Heap.get?_push_size _ rfl), rfl, rfl⟩, (hT.push _).push _⟩

section
variable {X : Cx}
theorem reads_keep {h h' : Heap} (k : ∀ x o, h.get? x = some o → h'.get? x = some o) {v : Value} {d : PyData} {as : List Addr} (r : Reads h v d as) : Reads h' v d as := PyProof.Rows.Reads.keeps k r
/-- max(x, y) of points -/
def rMaxP : List V → Hp → VK → Prop := fun xs H Q => ∃ (a b : Addr) (p q : Pt), xs = [.ref a, .ref b] ∧ PtAt H a p ∧ PtAt H b q ∧ Q (if ptLt p q then .ref b else .ref a) H
def rMinP : List V → Hp → VK → Prop := fun xs H Q => ∃ (a b : Addr) (p q : Pt), xs = [.ref a, .ref b] ∧ PtAt H a p ∧ PtAt H b q ∧ Q (if ptLt q p then .ref b else .ref a) H
theorem call_maxP (hc : X.calm = true) (hu : X.A.units + 64 < cLine) : CallR X (.builtin "max") rMaxP := by
  intro pins s σ H xs us Q I r h
  obtain ⟨a, b, p, q, rfl, hp, hq, k⟩ := h
  obtain ⟨u, v, rfl, ru, rv⟩ := vals2 r
  obtain ⟨as, r1⟩ := Dp.reads I _ _ u hp.dp ru
  obtain ⟨bs, r2⟩ := Dp.reads I _ _ v hq.dp rv
  refine max_two_on (c0 := ptLt p q) (I.ok.hd hc) (fun s' Q' E' kk hq' => ?_) fun h' tk kk => ⟨_, H, I.kept (t' := tk) kk, ?_, k⟩
  · exact PySem.W.gt_data (reads_keep kk r2) (reads_keep kk r1) (pt_alike q p) (by intro z; cases z) (by show X.A.units + 1 + _ < _; simp [ptD, PyData.depth, PyData.depthAll]; omega) hq'
  · cases ptLt p q
    · exact ru
    · exact rv
theorem call_minP (hc : X.calm = true) (hu : X.A.units + 64 < cLine) : CallR X (.builtin "min") rMinP := by
  intro pins s σ H xs us Q I r h
  obtain ⟨a, b, p, q, rfl, hp, hq, k⟩ := h
  obtain ⟨u, v, rfl, ru, rv⟩ := vals2 r
  obtain ⟨as, r1⟩ := Dp.reads I _ _ u hp.dp ru
  obtain ⟨bs, r2⟩ := Dp.reads I _ _ v hq.dp rv
  refine min_two_on (c0 := ptLt q p) (I.ok.hd hc) (fun s' Q' E' kk hq' => ?_) fun h' tk kk => ⟨_, H, I.kept (t' := tk) kk, ?_, k⟩
  · exact PySem.W.lt_data (reads_keep kk r2) (reads_keep kk r1) (pt_alike q p) (by intro z; cases z) (by show X.A.units + 1 + _ < _; simp [ptD, PyData.depth, PyData.depthAll]; omega) hq'
  · cases ptLt q p
    · exact ru
    · exact rv
end
end Ah

/-! rows of a dict of texts and ints, in the order of points -/
namespace Ah
open PySem PySem.Spec PySem.Calls PyProof.Rows L2 He
def keyStr : Key → Str
  | .inr z => z
  | .inl _ => Str.empty
/-- rows lie at these addresses -/
inductive RowsP (H : Hp) : List Addr → List (Str × Int) → Prop
  | nil : RowsP H [] []
  | cons {a : Addr} {r : Str × Int} {as : List Addr} {rs : List (Str × Int)} (h : H a = some (.tup [.str r.1, .int r.2])) (t : RowsP H as rs) : RowsP H (a :: as) (r :: rs)
section
variable {H H' : Hp} {as bs : List Addr} {rs ss : List (Str × Int)}
theorem RowsP.tk (h : RowsP H as rs) (t : Tk H H') : RowsP H' as rs := by
  induction h with
  | nil => exact .nil
  | cons h _ ih => exact .cons (t _ _ h) ih
theorem RowsP.len (h : RowsP H as rs) : as.length = rs.length := by
  induction h with
  | nil => rfl
  | cons _ _ ih => simp [ih]
theorem RowsP.app (h : RowsP H as rs) (g : RowsP H bs ss) : RowsP H (as ++ bs) (rs ++ ss) := by
  induction h with
  | nil => exact g
  | cons h _ ih => exact .cons h ih
theorem RowsP.take (h : RowsP H as rs) (n : Nat) : RowsP H (as.take n) (rs.take n) := by
  induction h generalizing n with
  | nil => simpa using RowsP.nil
  | cons h t ih =>
    cases n with
    | zero => simpa using RowsP.nil
    | succ n => exact .cons h (ih n)
theorem RowsP.dps {K : Frag} (h : RowsP H as rs) : DpAll K H (as.map V.ref) (rs.map fun r => .tuple [.str r.1, .int r.2]) := by
  induction h with
  | nil => exact .nil
  | cons h _ ih => exact .cons (.tup (SqT.of h) (.cons (.str _) (.cons (.int _) .nil))) ih
end
/-- a comprehension over the keys of a locked dict, a point made of each -/
theorem lc_keysP {td te : TE} {σ : L2.St} {i : Nat} {H : Hp} {R : Addr} {kvs : List (Key × V)} {f : Str → Pt} {Q : VK} (hR : H R = some (.dK kvs)) (hk : ∀ p ∈ kvs, ∃ z v, p = (Sum.inr z, v)) (few : kvs.length ≤ 1000)
    (hd : ∀ G Q', Ex R H G → Q' (.ref R) G → td σ G Q')
    (he : ∀ z v G Q', (Sum.inr z, v) ∈ kvs → Ex R H G → (∀ a, G a = none → Q' (.ref a) (upd G a (.tup [.int (f z).1, .str (f z).2]))) → te ((wipe σ [i]).set i (some (.str z))) G Q')
    (hw : ∀ x, wipe ((wipe σ [i]).set i (some x)) [i] = wipe σ [i])
    (q : ∀ H' D bs, Same H H' → H D = none → H' D = some (.lst (bs.map V.ref)) → PtsAt H' bs (kvs.map fun p => f (keyStr p.1)) → Q (.ref D) H') : tLockE (tLc (iKeys td) (gName i) tYes te [i]) σ H Q := by
  refine ⟨R, .dK kvs, hR, trivial, fun od => ?_⟩
  have exL : Ex R H (upd H R (.frz od (.dK kvs))) := Ex.refl.upd
  refine hd _ _ exL ⟨R, od, rfl, .inl ⟨kvs, upd_same, fun D hD => ?_⟩⟩
  have hDR : D ≠ R := fun z => by
    rw [z, upd_same] at hD
    cases hD
  have hD0 : H D = none := by
    rw [upd_ne hDR] at hD
    exact hD
  refine lc_it walk_keys (fun j H2 => ∃ bs, H2 D = some (.lst (bs.map V.ref)) ∧ bs.length = j ∧ PtsAt H2 bs ((kvs.take j).map fun p => f (keyStr p.1)) ∧ H2 R = some (.frz od (.dK kvs)) ∧ Ex R H H2) ?_ (fun j H2 _ ⟨_, _, _, _, h, _⟩ => h) ?_ ?_
  · refine ⟨[], upd_same, rfl, (by rw [List.take_zero]; exact .nil), (by rw [upd_ne hDR.symm, upd_same]), fun b o hb h => ?_⟩
    rw [upd_ne (ne_of_none h hD0), upd_ne hb]
    exact h
  · rintro j x H2 H3 hj ⟨bs, hb, hl, hp, hr, ex⟩ ⟨rfl, k, v, hkv, rfl⟩
    obtain ⟨z, v', e⟩ := hk (k, v) (List.mem_of_getElem? hkv)
    cases e
    refine ⟨hw _, ?_⟩
    dsimp only [tYes]
    rw [if_pos rfl]
    refine he z v H3 _ (List.mem_of_getElem? hkv) ex fun a ha => ?_
    have hDa : D ≠ a := (ne_of_none hb ha)
    refine ⟨_, by rw [upd_ne hDa]; exact hb, (by rw [List.length_map, sizeLine_eq]; omega), bs ++ [a], ?_, ?_, ?_, ?_, ?_⟩
    · rw [upd_same, List.map_append]
      rfl
    · rw [List.length_append, hl]
      rfl
    · have e1 : (kvs.take (j + 1)).map (fun p => f (keyStr p.1)) = (kvs.take j).map (fun p => f (keyStr p.1)) ++ [f z] := by
        rw [List.take_add_one, hkv, List.map_append]
        rfl
      rw [e1]
      have t1 : Tk H3 (upd H3 a (.tup [.int (f z).1, .str (f z).2])) := Tk.same (Same.upd (Same.refl _) ha)
      have t2 : Tk (upd H3 a (.tup [.int (f z).1, .str (f z).2])) (upd (upd H3 a (.tup [.int (f z).1, .str (f z).2])) D (.lst (bs.map V.ref ++ [.ref a]))) := Tk.upd (by rw [upd_ne hDa]; exact hb) (fun xs z => by cases z)
      exact (hp.tk (t1.trans t2)).app (.cons (t2 _ _ upd_same) .nil)
    · rw [upd_ne hDR.symm, upd_ne (ne_of_none hr ha)]
      exact hr
    · intro b o hb' h
      rw [upd_ne (ne_of_none h hD0), upd_ne (ne_of_none (ex b o hb' h) ha)]
      exact ex b o hb' h
  · rintro H2 ⟨bs, hb, hl, hp, hr, ex⟩
    rw [List.take_length] at hp
    refine ⟨hr, q _ D bs ?_ hD0 ?_ ?_⟩
    · intro b o h
      by_cases e : b = R
      · subst e
        rw [upd_same, ← h, hR]
      · rw [upd_ne e]
        exact ex b o e h
    · rw [upd_ne hDR]
      exact hb
    · exact hp.tk (Tk.upd hr (fun xs z => by cases z))
/-- a comprehension over a list of points: for those with c, a row -/
theorem lc_rowsP {K : Frag} {tl te : TE} {tt : TT} {σ : L2.St} {i : Nat} {H : Hp} {L : Addr} {as : List Addr} {qs : List Pt} {c : Pt → Bool} {g : Str → Int} {Q : VK} (hL : H L = some (.lst (as.map V.ref))) (hp : PtsAt H as qs) (few : qs.length ≤ 1000)
    (hl : ∀ Q', Q' (.ref L) H → tl σ H Q')
    (ht : ∀ a p G Q', p ∈ qs → PtAt G a p → Same H G → (∀ G', Same G G' → Q' (c p) G') → tt ((wipe σ [i]).set i (some (.ref a))) G Q')
    (he : ∀ a p G Q', p ∈ qs → PtAt G a p → Same H G → (∀ x, G x = none → Q' (.ref x) (upd G x (.tup [.str p.2, .int (g p.2)]))) → te ((wipe σ [i]).set i (some (.ref a))) G Q')
    (hw : ∀ x, wipe ((wipe σ [i]).set i (some x)) [i] = wipe σ [i])
    (q : ∀ H' D bs, Same H H' → H D = none → H' D = some (.lst (bs.map V.ref)) → RowsP H' bs ((qs.filter c).map fun p => (p.2, g p.2)) → Q (.ref D) H') : tLc (iList K tl) (gName i) tt te [i] σ H Q := by
  refine hl _ ⟨L, rfl, ⟨_, SqL.of hL⟩, fun D hD => ?_⟩
  refine lc_it (walk_list (xs := as.map V.ref)) (fun j H2 => ∃ bs, H2 D = some (.lst (bs.map V.ref)) ∧ bs.length ≤ j ∧ RowsP H2 bs (((qs.take j).filter c).map fun p => (p.2, g p.2)) ∧ Same H H2) ?_ (fun j H2 _ ⟨_, _, _, _, s⟩ => SqL.of (s _ _ hL)) ?_ ?_
  · exact ⟨[], upd_same, by simp, (by rw [List.take_zero]; exact .nil), Same.upd (Same.refl _) hD⟩
  · rintro j y H2 H3 hj ⟨bs, hb, hlen, hrw, s⟩ ⟨rfl, hy⟩
    obtain ⟨a, ea, rfl⟩ : ∃ a, as[j]? = some a ∧ y = .ref a := by
      rw [List.getElem?_map] at hy
      cases e : as[j]? with
      | none =>
        rw [e] at hy
        cases hy
      | some a =>
        rw [e] at hy
        cases hy
        exact ⟨a, rfl, rfl⟩
    obtain ⟨p, er, ha⟩ := hp.at ea
    refine ⟨hw _, ?_⟩
    have hjl := (List.getElem?_eq_some_iff.mp ea).1
    have hln := hp.len
    refine ht a p H3 _ (List.mem_of_getElem? er) (ha.same s) s fun H4 s4 => ?_
    have e1 : ((qs.take (j + 1)).filter c).map (fun p => (p.2, g p.2)) = ((qs.take j).filter c).map (fun p => (p.2, g p.2)) ++ (if c p = true then [(p.2, g p.2)] else []) := by
      rw [List.take_add_one, er, List.filter_append, List.map_append]
      congr 1
      cases hcp : c p <;> simp [hcp]
    have s34 := s.trans s4
    have hb4 := s4 _ _ hb
    have hrw4 := hrw.tk (.same s4)
    cases hcp : c p with
    | true =>
      rw [hcp, if_pos rfl] at e1
      rw [if_pos rfl]
      refine he a p H4 _ (List.mem_of_getElem? er) (ha.same s34) s34 fun x hx => ?_
      have hDx : D ≠ x := ne_of_none hb4 hx
      refine ⟨_, by rw [upd_ne hDx]; exact hb4, (by rw [List.length_map, sizeLine_eq]; omega), bs ++ [x], ?_, ?_, ?_, ?_⟩
      · rw [upd_same, List.map_append]
        rfl
      · rw [List.length_append]
        simp
        omega
      · rw [e1]
        have t1 : Tk H4 (upd H4 x (.tup [.str p.2, .int (g p.2)])) := Tk.same (Same.upd (Same.refl _) hx)
        have t2 : Tk (upd H4 x (.tup [.str p.2, .int (g p.2)])) (upd (upd H4 x (.tup [.str p.2, .int (g p.2)])) D (.lst (bs.map V.ref ++ [.ref x]))) := Tk.upd (by rw [upd_ne hDx]; exact hb4) (fun xs z => by cases z)
        exact (hrw4.tk (t1.trans t2)).app (.cons (t2 _ _ upd_same) .nil)
      · intro b o hbo
        rw [upd_ne (ne_of_none hbo hD), upd_ne (ne_of_none (s34 _ _ hbo) hx)]
        exact s34 _ _ hbo
    | false =>
      rw [hcp] at e1
      simp only [Bool.false_eq_true, if_false, List.append_nil] at e1
      rw [if_neg (by decide)]
      exact ⟨bs, hb4, by omega, by rw [e1]; exact hrw4, s34⟩
  · rintro H2 ⟨bs, hb, hlen, hrw, s⟩
    rw [List.length_map, List.take_of_length_le (by rw [hp.len]; omega)] at hrw
    exact q H2 D bs s hD hb hrw
section
variable {X : Cx} {k j : Nat} {f C : Addr} {sp : Sp} {E : XK} {e : Expr} {te : TE} {pos : Pos}
/-- {x!r} in an f-string, x an instance of C with its own __repr__ -/
def tFmtRO (C : Addr) (sp : Sp) (E : XK) (te : TE) : TE := fun σ H Q => te σ H fun x H1 => ∃ a dx fs, x = .ref a ∧ H1 a = some (.ins C dx fs) ∧ sp [x] H1 (fun z H' => ∃ y, z = .str y ∧ y.length ≤ sizeLine ∧ Q (.str y) H') E
theorem pe_fmtRO (hm : Meth X.K C "__repr__" f) (G : FnB X.prog X.w X.K X.mg X.base k f sp) (hr : Rm j X.A) (hx : Passes (L2.CX X.prog X.w) X E) (he : PE X e te) (hk : k ≤ j := by decide) : PE X (.FormattedValue e 114 none pos) (tFmtRO C sp E te) := by
  refine ⟨fun pins s σ H Q I h => ?_⟩
  refine wpAny_FormattedValue_repr (thn (he.run pins s σ H _ I h) fun v s1 hv => ?_)
  obtain ⟨x, H1, I1, r1, a, dx, fs, rfl, ha, q⟩ := hv
  cases (show v = Value.ref a from r1)
  obtain ⟨mA, O, _⟩ := ins_get I1.hok ha
  obtain ⟨od, J, _⟩ := O.look
  unfold pyReprObj
  refine wpAny_bind (wpAny_cRoomFor (hu0 hr) ?_)
  refine wpAny_bind (wpAny_bind (J.type.here ((PySem.W.looks_findIn I1.kIn hm.at_).here ?_)))
  refine wpAny_bind (m := callSpecialIfBound? (.ref a) (Str.ofString "__repr__")) (PySem.W.ifBound_K I1.kIn J hm.at_ hm.fn (wpAny_mono (wpAny_call (runB (us := [.ref a]) (vs := [.ref a]) G (hr.mono hk) I1.env0 hx I1 (.cons rfl .nil) q)) (fun w s' z => ?_) fun _ _ x => x))
  obtain ⟨z', H', I', rz, y, ey, hy, qz⟩ := z
  subst ey
  obtain ⟨t, e⟩ := (show ∃ t, w = Value.str y t from rz)
  subst e
  refine wpAny_bind (wpAny_isInstance (T := "str") (b := true) rfl isSubtype_str_str ?_)
  exact wpAny_pure (wpAny_formatField_str ⟨.str y, H', I'.tok _, ⟨_, rfl⟩, qz⟩ ⟨.str y, H', I'.tok _, ⟨_, rfl⟩, qz⟩ hy)
/-- == of two dicts: equal ones, or of other lengths -/
def rEqD2 : R2 := fun x y H Q => rEqDA x y H Q ∨ ∃ a b ks ls, x = .ref a ∧ y = .ref b ∧ H a = some (.dK ks) ∧ H b = some (.dK ls) ∧ ks.length ≠ ls.length ∧ Q (.bl false) H
theorem op_eqD2 (hu : X.A.units < cLine) : OpR X (compareOp .Eq) rEqD2 := by
  intro pins s σ H x y v u Q I rx ry h
  rcases h with h | ⟨a, b, ks, ls, rfl, rfl, ea, eb, hlen, q⟩
  · exact op_eq_dictA hu pins s σ H x y v u Q I rx ry h
  · obtain rfl : v = Value.ref a := rx
    obtain rfl : u = Value.ref b := ry
    obtain ⟨_, ya, va, ra, da⟩ := (show ObjOk X.prog X.w H s.heap a (.dK ks) from I.hok a _ ea)
    obtain ⟨_, yb, vb, rb, db⟩ := (show ObjOk X.prog X.w H s.heap b (.dK ls) from I.hok b _ eb)
    have hl : ¬ va.length = vb.length := by rw [← ra.length, ← rb.length]; exact hlen
    exact PySem.W.keq_eq (knd := mixKind X.prog X.w) (r := true) ya yb da db hu (fun e => absurd e hl) (fin_bl I q (by simp [hl]))
theorem op_leP (hu : X.A.units + 64 < cLine) : OpR X (compareOp .LtE) (rPt fun p q => !ptLt q p) := by
  intro pins s σ H x y v u Q I rx ry h
  obtain ⟨a, b, p, q, rfl, rfl, hp, hq, k⟩ := h
  obtain ⟨as, r1⟩ := Dp.reads I _ _ v hp.dp rx
  obtain ⟨bs, r2⟩ := Dp.reads I _ _ u hq.dp ry
  exact PySem.W.le_data r1 r2 (pt_alike p q) (by intro z; cases z) (by simp [ptD, PyData.depth, PyData.depthAll]; omega) ⟨.bl _, H, I, rfl, k⟩
end
theorem cut_take (xs : List V) (h : Nat) : cutV xs none (some (h : Int)) = xs.take h := by
  unfold cutV
  have e0 : HT.sIx xs.length 0 none = 0 := rfl
  rw [e0, List.drop_zero, Nat.sub_zero]
  have e1 : HT.sIx xs.length xs.length (some (h : Int)) = min h xs.length := by
    simp [HT.sIx]
    omega
  rw [e1]
  by_cases hh : h ≤ xs.length
  · rw [Nat.min_eq_left hh]
  · rw [Nat.min_eq_right (by omega), List.take_length, List.take_of_length_le (by omega)]
/-- a comprehension over the keys of a locked dict that takes none -/
theorem lc_keysNone {td te : TE} {tt : TT} {σ : L2.St} {i : Nat} {H : Hp} {R : Addr} {kvs : List (Key × V)} {Q : VK} (hR : H R = some (.dK kvs)) (hk : ∀ p ∈ kvs, ∃ z v, p = (Sum.inr z, v))
    (hd : ∀ G Q', Ex R H G → Q' (.ref R) G → td σ G Q')
    (ht : ∀ z v G Q', (Sum.inr z, v) ∈ kvs → Ex R H G → Rd G R (.dK kvs) → (∀ G', Same G G' → Q' false G') → tt ((wipe σ [i]).set i (some (.str z))) G Q')
    (hw : ∀ x, wipe ((wipe σ [i]).set i (some x)) [i] = wipe σ [i])
    (q : ∀ H' D, Same H H' → H D = none → H' D = some (.lst []) → Q (.ref D) H') : tLockE (tLc (iKeys td) (gName i) tt te [i]) σ H Q := by
  refine ⟨R, .dK kvs, hR, trivial, fun od => ?_⟩
  have exL : Ex R H (upd H R (.frz od (.dK kvs))) := Ex.refl.upd
  refine hd _ _ exL ⟨R, od, rfl, .inl ⟨kvs, upd_same, fun D hD => ?_⟩⟩
  have hDR : D ≠ R := fun z => by
    rw [z, upd_same] at hD
    cases hD
  have hD0 : H D = none := by
    rw [upd_ne hDR] at hD
    exact hD
  refine lc_it walk_keys (fun j H2 => H2 D = some (.lst []) ∧ H2 R = some (.frz od (.dK kvs)) ∧ Ex R H H2) ?_ (fun j H2 _ h => h.2.1) ?_ ?_
  · refine ⟨upd_same, (by rw [upd_ne hDR.symm, upd_same]), fun b o hb h => ?_⟩
    rw [upd_ne (ne_of_none h hD0), upd_ne hb]
    exact h
  · rintro j x H2 H3 hj ⟨hb, hr, ex⟩ ⟨rfl, k, v, hkv, rfl⟩
    obtain ⟨z, v', e⟩ := hk (k, v) (List.mem_of_getElem? hkv)
    cases e
    refine ⟨hw _, ht z v H3 _ (List.mem_of_getElem? hkv) ex (.inr ⟨od, hr⟩) fun G' sG => ?_⟩
    rw [if_neg (by decide)]
    exact ⟨sG _ _ hb, sG _ _ hr, fun b o hb' h => sG _ _ (ex b o hb' h)⟩
  · rintro H2 ⟨hb, hr, ex⟩
    refine ⟨hr, q _ D ?_ hD0 ?_⟩
    · intro b o h
      by_cases e : b = R
      · subst e
        rw [upd_same, ← h, hR]
      · rw [upd_ne e]
        exact ex b o e h
    · rw [upd_ne hDR]
      exact hb
theorem neI {i j : Int} {H : Hp} {Q : VK} (q : Q (.bl (!decide (i = j))) H) : rNe (.int i) (.int j) H Q := by
  refine ⟨rfl, ?_⟩
  have e : decide (V.int i = V.int j) = decide (i = j) := by simp
  rw [e]
  exact q
theorem neS_same {x y : Str} {H : Hp} {Q : VK} (e : x = y) (q : Q (.bl false) H) : rNe (.str x) (.str y) H Q := by
  subst e
  refine ⟨rfl, ?_⟩
  rw [decide_eq_true rfl]
  exact q
theorem canLayRP : ∀ {rs : List (Str × Int)}, (∀ r ∈ rs, PyData.strOk r.1 = true) → PyData.canLayAll0 (rs.map fun r => .tuple [.str r.1, .int r.2]) = true
  | [], _ => rfl
  | r :: rs, h => by
    refine Bool.and_eq_true_iff.mpr ⟨?_, canLayRP fun q hq => h q (List.mem_cons_of_mem _ hq)⟩
    show (PyData.strOk r.1 && (true && true)) = true
    rw [h r (List.mem_cons_self)]
    rfl
theorem depthRP : ∀ rs : List (Str × Int), PyData.depthAll (rs.map fun r => .tuple [.str r.1, .int r.2]) ≤ 1
  | [] => by decide
  | r :: rs => by
    show max (max 0 (max 0 0) + 1) (PyData.depthAll (rs.map fun r => .tuple [.str r.1, .int r.2])) ≤ 1
    have := depthRP rs
    omega
theorem shapedRP {rs : List (Str × Int)} (h : ∀ r ∈ rs, PyData.strOk r.1 = true) : SeqAt.shaped (.list (rs.map fun r => .tuple [.str r.1, .int r.2])) = true := by
  refine Bool.and_eq_true_iff.mpr ⟨canLayRP h, decide_eq_true ?_⟩
  show PyData.depthAll (rs.map fun r => .tuple [.str r.1, .int r.2]) + 1 ≤ 64
  have := depthRP rs
  omega
theorem neRP {K : Frag} {H : Hp} {a b : Addr} {as bs : List Addr} {rs : List (Str × Int)} {Q : VK} (ok : ∀ r ∈ rs, PyData.strOk r.1 = true) (h1 : H a = some (.lst (as.map V.ref))) (h2 : RowsP H as rs) (h3 : H b = some (.lst (bs.map V.ref))) (h4 : RowsP H bs rs) (q : Q (.bl false) H) : rNeD K (.ref a) (.ref b) H Q :=
  neD_same (.list (rs.map fun r => .tuple [.str r.1, .int r.2])) (.lst (SqL.of h1) h2.dps) (.lst (SqL.of h3) h4.dps) (shapedRP ok) q
end Ah

/-! a def that is called in any state of handling; repr of a list of one own instance -/
namespace Ah
open PySem PySem.Spec PySem.Calls PyProof.Rows L2 He
open L2H (RoomH)
open Builtin Builtin.List
/-- what a def promises, whatever is handled -/
structure FnN (P : Program) (w : World) (K : Frag) (mg : Str → Option Value) (base : Heap) (k : Nat) (f : Addr) (sp : Sp) : Prop where
  run : ∀ (A : Around) (outer : List Env) (s : Shared) (H : Hp) (us : List Value) (vs : List V) (Q : VK) (E : XK), RoomH k A → Env0 P w K mg base A outer s H → Vals vs us → sp vs H Q E →
    codeAny (model P w) A (.call (.ref f) ⟨us, []⟩) (CR (L2.CX P w) outer P w H s Q E) s
/-- the context of such a def's body -/
def cxN (CX : CXT) (P : Program) (w : World) (K : Frag) (mg : Str → Option Value) (base : Heap) (N : List Str) (qual : Str) (scope : Scope) (f : Addr) (cd : Value) (A : Around) (outer : List Env) (s : Shared) (H : Hp) (E : XK) : Cx :=
  { cxOf CX P w K mg base N qual scope f cd A outer s H E with calm := false }
theorem inv_startN {CX : CXT} {P : Program} {w : World} {K : Frag} {mg : Str → Option Value} {base : Heap} {N ps : List Str} {qual : Str} {scope : Scope} {f : Addr} {cd : Value} {A : Around} {outer : List Env} {s s1 : Shared} {H : Hp} {E : XK} {us : List Value} {vs : List V}
    (S : FnScope N ps scope) (e0 : Env0 P w K mg base A outer s H) (hl : vs.length = ps.length) (r : Vals vs us)
    (x : InCallC s s.heap.objs.size (bindL (envOfC qual scope s.heap.objs.size f cd).kindOf (ps.zip us) fun _ => none) (cellsFrom (s.heap.objs.size + 1) scope.names []) (bindC (envOfC qual scope s.heap.objs.size f cd).kindOf (ps.zip us) fun _ => none) s1) :
    L2.Inv (cxN CX P w K mg base N qual scope f cd A outer s H E) [] (L2.start N vs) H s1 := by
  have hpl : ps.length ≤ N.length := by have := congrArg List.length S.pre; rw [List.length_take] at this; omega
  obtain ⟨h1, tk, rfl, hk⟩ := x.done
  have noA : ∀ b : Addr, b ∉ (cxN CX P w K mg base N qual scope f cd A outer s H E).ex := fun b z => absurd (show b ∈ ([] : List Addr) from z) (by simp)
  refine ⟨⟨e0.mod, S.kind, rfl, rfl, Nat.le_refl _, fun y z c h1 h2 => ?_, fun y hy => ?_, fun y c _ h => ?_, (fun z => Bool.noConfusion (show false = true from z)), Around.frames_deeper e0.frames, .inr ⟨rfl, rfl⟩, fun b z => absurd z (noA b), e0.bs, e0.bsz, fun b _ _ => noA b, fun b z => absurd z (noA b), e0.funs, e0.frf⟩,
    rfl, e0.bare, Un.kept hk, ⟨_, x.toInCall.ns, fun i y v h1 h2 h3 => ?_⟩, fun y c h => ⟨_, x.cell y c h⟩, e0.hok.fresh (Nat.le_refl _), fun y c h => ?_, fun q hq => ?_, e0.hok.kept hk, ?_⟩
  · exact name_of_addr x.apart (PySem.mem_of_lookup h1) (PySem.mem_of_lookup h2)
  · have hy : scope.names.lookup y = some .cell ∨ scope.names.lookup y = some .free := hy
    rcases hy with hy | hy
    · exact cell_has hy
    · exact absurd rfl (S.nofree _ (PySem.mem_of_lookup hy))
  · exact Nat.le_of_lt (x.above y c (PySem.mem_of_lookup h))
  · have hi : i < vs.length := by
      unfold L2.start at h2
      by_cases hi : i < vs.length
      · exact hi
      · rw [List.getElem?_append_right (by simpa using hi)] at h2
        rw [List.getElem?_replicate] at h2
        split at h2 <;> cases h2
    have ha : vs[i]? = some v := by
      unfold L2.start at h2
      rw [List.getElem?_append_left (by simpa using hi), List.getElem?_map] at h2
      cases e : vs[i]? with
      | none => rw [e] at h2; cases h2
      | some a => rw [e] at h2; cases h2; rfl
    obtain ⟨u, hu, rv⟩ := r.get ha
    have hp : ps[i]? = some y := by
      rw [← S.pre, List.getElem?_take_of_lt (by omega)]; exact h1
    have ndP : ps.Nodup := by rw [← S.pre]; exact S.nd.sublist (List.take_sublist _ _)
    refine ⟨u, rv, ?_⟩
    rcases S.par y (List.mem_of_getElem? hp) with k | k
    · exact .inl ⟨k, bindL_get ndP hp hu k⟩
    · obtain ⟨c, e⟩ := cell_has (n := s.heap.objs.size + 1) k
      refine .inr ⟨.inl k, c, e, ?_⟩
      have q := x.cell y c e
      rw [bindC_get ndP hp hu (by show scope.names.lookup y ≠ _; rw [k]; decide)] at q
      exact q
  · exact e0.hok.fresh (Nat.le_of_lt (x.above y c (PySem.mem_of_lookup h)))
  · exact absurd (show q ∈ ([] : List (Addr × Obj)) ++ [] from hq) (by simp)
  · unfold L2.start
    show _ = N.length
    rw [List.length_append, List.length_map, List.length_replicate]
    omega
/-- THE RULE for such a def without defaults -/
theorem okN {P : Program} {w : World} {K : Frag} {mg : Str → Option Value} {base : Heap} {N ps : List Str} {k : Nat} {sp : Sp} {d : DefG} (S : Stands K d) (h0 : d.dfl = []) (sc : FnScope N ps d.scope) (len : ∀ vs H Q E, sp vs H Q E → vs.length = ps.length)
    (hb : ∀ (kV doc pm : Value) (an : Option Addr) (cdv ct : Value) (us : List Value), us.length = ps.length → bindArgs (PySem.W.fnOf d.name d.qual d.params d.body d.scope .none kV doc pm an cdv ct) ⟨us, []⟩ = pure (ps.zip us))
    (hbody : ∀ (A : Around) (outer : List Env) (s : Shared) (H : Hp) (vs : List V) (Q : VK) (E : XK), RoomH k (A.deeper (envOfC d.qual d.scope s.heap.objs.size (d.ad K) (CodeV K (d.ad K)))) → sp vs H Q E →
      ∃ t, PSs (cxN (L2.CX P w) P w K mg base N d.qual d.scope (d.ad K) (CodeV K (d.ad K)) A outer s H E) d.body t ∧ t { nx := fun _ H' => Q .non H', rt := Q } (L2.start N vs) H) : FnN P w K mg base (k + 1) (d.ad K) sp := by
  obtain ⟨fd, F⟩ := S
  have e : d.dvs K = [] := by unfold DefG.dvs; rw [h0]; rfl
  rw [e] at F
  refine ⟨fun A outer s H us vs Q E hr e0 r hsp => ?_⟩
  have hl := len _ _ _ _ hsp
  have KX : K.In s.heap := e0.mod.kin.keeps fun b o e => (e0.bs b o e).1
  have b := F.bindsN hb s us KX (by rw [List.append_nil, ← r.length]; exact hl)
  rw [List.append_nil] at b
  obtain ⟨oc, od, dV, kV, doc, pm, an, cdv, ct, osl, rfl, lk, hcd, _, _⟩ := F.ex
  have lim : s.heap.NoLimit := e0.mod.nolimit.keeps fun b o e => (e0.bs b o e).1
  have par : ∀ y ∈ ps.zip us, d.scope.names.lookup y.1 = some .local ∨ (d.scope.names.lookup y.1 = some .cell ∧ ((cellsFrom (s.heap.objs.size + 1) d.scope.names []).lookup y.1).isSome = true) := by
    rintro ⟨n, v⟩ hy
    cases sc.par n (List.of_mem_zip hy).1 with
    | inl q => exact Or.inl q
    | inr q => exact Or.inr ⟨q, PySem.W.cellsFrom_some _ _ _ (Or.inl q)⟩
  refine codeAny_call_function hr.depth (KX _ _ lk) rfl sc.co sc.gen rfl (PySem.W.codeRec_of KX hcd) (b _ _ _ _ ?_)
  refine wpAny_newFunctionEnv_cells sc.kind par fun env he s1 x => ?_
  subst he
  refine ⟨lim.keeps x.toInCall.keep, codeAny_func ?_⟩
  have ec : CodeV K (d.ad K) = cdv := by
    unfold CodeV
    rw [lk]
  subst ec
  obtain ⟨t, ht, hq⟩ := hbody A outer s H vs Q E (hr.deeper _) hsp
  have I := inv_startN (CX := L2.CX P w) (E := E) sc e0 hl r x
  refine wpAny_mono (ht.run [] s1 (L2.start N vs) H _ I hq) (fun fl s' hs => ?_) fun _ _ hs => hs
  cases fl with
  | ret u =>
    obtain ⟨v, _, H', J, rv, q⟩ := hs
    exact ⟨v, H', J.os, J.bare, J.base, J.hok, rv, q⟩
  | next =>
    obtain ⟨_, H', J, q⟩ := hs
    exact ⟨V.non, H', J.os, J.bare, J.base, J.hok, rfl, q⟩
  | brk => exact hs.elim fun _ z => z.elim fun _ z => z.2.elim
  | cont => exact hs.elim fun _ z => z.elim fun _ z => z.2.elim
theorem ifBoundBy_K {M : Model} {A : Around} {E : Value → Shared → Prop} {s : Shared} {K : Frag} {x C f : Addr} {ox : Obj} {od : Option Obj} {name : Str} {last : Value → List Value → Sem Value} {Q : Option Value → Shared → Prop} (X : K.In s.heap) (I : PySem.W.InstAt s.heap x ox C od) (hs : PySem.W.findIn K (.ref C) name = some (some (.ref f))) (hf : PySem.W.isFn K (.ref f) = true)
    (h : wpAny M A (last (.ref f) [.ref x]) (fun v => Q (some v)) E s) : wpAny M A (callSpecialIfBoundBy? last (.ref x) name) Q E s := by
  simp only [callSpecialIfBoundBy?, bindSpecialIfBound?]
  refine wpAny_holding (wpAny_bind (wpAny_bind (wpAny_bind (I.type.here ((PySem.W.looks_findIn X hs).here ?_)))))
  refine wpAny_bind (wpAny_askSetting (wpAny_ite ?_))
  have fin : wpAny M A (last (.ref f) [.ref x] >>= fun v => pure (some v)) Q E s := wpAny_bind (wpAny_mono h (fun v s' h' => wpAny_pure h') fun _ _ h' => h')
  split
  · exact wpAny_bind ((PySem.W.bind_fn X _ (beq_iff_eq.mp hf)).here (wpAny_pure (by exact fin)))
  · exact wpAny_tryCatch (wpAny_bind ((PySem.W.bind_fn X _ (beq_iff_eq.mp hf)).here (wpAny_pure (by exact fin))))
section
variable {X : Cx} {k : Nat} {f C : Addr} {sp : Sp}
/-- repr([x]), x an instance of C with its own __repr__ that tells z -/
def rRepr1 (C : Addr) (sp : Sp) : List V → Hp → VK → Prop := fun xs H Q => ∃ (a x dx : Addr) (fs : List (Str × V)) (z : Str), xs = [.ref a] ∧ H a = some (.lst [.ref x]) ∧ H x = some (.ins C dx fs) ∧ z.length ≤ 1000 ∧
  (∀ H1, Same H H1 → sp [.ref x] H1 (fun v H' => v = .str z ∧ H' = H1) L2.E0) ∧ ∀ H', Same H H' → Q (.str (listText [z])) H'
/-- the item, under the list's guard -/
theorem item_repr {A : Around} {pins : List (Addr × Obj)} {σ : L2.St} {H : Hp} {s : Shared} {x dx : Addr} {fs : List (Str × V)} {z : Str} {b : Nat} {Q : Str → Shared → Prop} {E : Value → Shared → Prop} (hm : Meth X.K C "__repr__" f) (G : FnN X.prog X.w X.K X.mg X.base k f sp) (hr : RoomH k A) (hu : A.units < cLine) (hbz : b ≤ sizeLine)
    (e0 : Env0 X.prog X.w X.K X.mg X.base A X.stack s H) (I : L2.Inv X pins σ H s) (hx : H x = some (.ins C dx fs)) (h : sp [.ref x] H (fun v H' => v = .str z ∧ H' = H) L2.E0)
    (q : ∀ s', L2.Inv X pins σ H s' → Q z s') : wpAny (model X.prog X.w) A (pyReprUnder b (.ref x)) Q E s := by
  obtain ⟨mA, O, _⟩ := ins_get I.hok hx
  obtain ⟨od, J, _⟩ := O.look
  refine wpAny_pyReprUnder_ref hbz ?_
  unfold pyReprObjUnder pyReprObjBy
  refine wpAny_bind (wpAny_cRoomFor hu ?_)
  refine wpAny_bind (wpAny_bind (J.type.here ((PySem.W.looks_findIn I.kIn hm.at_).here ?_)))
  refine wpAny_bind (ifBoundBy_K (name := Str.ofString "__repr__") I.kIn J hm.at_ hm.fn ?_)
  show wpAny (model X.prog X.w) A (call (.ref f) ([.ref x] ++ [])) _ _ _
  refine wpAny_call (codeAny_mono (G.run A X.stack s H [.ref x] [.ref x] _ L2.E0 hr e0 (.cons rfl .nil) h) fun r s' hq => ?_)
  match r, hq with
  | .error e, hq => exact False.elim ((passL (X := X.nox)) pins σ H s e s' (I.wish _) hq)
  | .ok (.ret u), hq =>
    obtain ⟨v, H', I', rv, ev, eH⟩ := I.after hq
    subst ev
    rw [eH] at I'
    obtain ⟨t, e⟩ := (show ∃ t, u = Value.str z t from rv)
    subst e
    refine wpAny_bind (wpAny_isInstance (T := "str") (b := true) rfl isSubtype_str_str ?_)
    exact wpAny_pure ⟨z, t, rfl, q s' I'⟩
theorem room_loop {A : Around} {k : Nat} (hr : RoomH (k + 2) A) (a b c d : Value) : RoomH k ((A.in1).under (.builtin "list.__repr__.loop" ⟨[a, b, c, d], []⟩)) := by
  have h1 := hr.dp
  have h2 := hr.un
  refine ⟨?_, ?_⟩
  · have e : ((A.in1).under (.builtin "list.__repr__.loop" ⟨[a, b, c, d], []⟩)).depth = A.depth + 1 := by
      have w0 : (Code.builtin "list.__repr__.loop" ⟨[a, b, c, d], []⟩).weight = 1 := by first | rfl | kernel_rfl
      show A.depth + (Code.builtin "list.__repr__.loop" ⟨[a, b, c, d], []⟩).weight = A.depth + 1
      rw [w0]
    rw [e]
    omega
  · rw [units_under_list_loop]
    show A.units + 1 + 1 + 16 * k + 200 < cLine
    omega
theorem env_loop {P : Program} {w : World} {K : Frag} {mg : Str → Option Value} {base : Heap} {A : Around} {outer : List Env} {s : Shared} {H : Hp} (e : Env0 P w K mg base A outer s H) (args : Args) : Env0 P w K mg base ((A.in1).under (.builtin "list.__repr__.loop" args)) outer s H :=
  ⟨by first | exact e.frames | (simpa [Around.under, Code.envs, Code.isFrame, pushEnvs] using e.frames), e.mod, e.bs, e.bsz, e.funs, e.frf, e.hok, e.bare⟩
theorem call_repr1 (hm : Meth X.K C "__repr__" f) (G : FnN X.prog X.w X.K X.mg X.base k f sp) (hg : X.A.guards = some []) (hr : RoomH (k + 2) X.A) : CallR X (.builtin "repr") (rRepr1 C sp) := by
  intro pins s σ H xs us Q I r h
  obtain ⟨a, x, dx, fs, z, rfl, ha, hx, hz, hsp, q⟩ := h
  obtain ⟨u, rfl, ru⟩ := r.one
  cases (show u = Value.ref a from ru)
  obtain ⟨its, n, rv, ho, _⟩ := I.lst ha
  obtain ⟨v0, rfl, rv0⟩ := rv.one
  cases (show v0 = Value.ref x from rv0)
  have hun := hr.un
  refine call_repr_slot (by omega) ⟨_, ho, rfl⟩ F.slot_list_repr.toG ?_
  refine wpAny_call (codeAny_call_builtin F.slot_list_repr.plain F.entry_list_repr (F.slot_list_repr.check _ _ _ _ _ _ _ _ ⟨_, ho, rfl⟩ (F.args_list_repr_1 _) ?_))
  refine wpAny_list_repr_head (l := []) hg (fun v rest kw hm => nomatch hm) ho rfl ?_
  refine wpAny_bind (m := newList []) (wpAny_newObj_type ?_)
  refine wpAny_pure ⟨F.quiet_list_repr_loop _, ?_⟩
  have hP : H s.heap.objs.size = none := I.hok.fresh (Nat.le_refl _)
  have I1 : L2.Inv X pins σ (upd H s.heap.objs.size (.lst [])) { s with heap := s.heap.push { cls := .type "list", data := .seq #[] }, toks := s.toks } := I.laid (t' := s.toks) (fun b u e => Heap.get?_push_of_some _ e) (Nat.le_refl _) ⟨by simp, [], 0, .nil, Heap.get?_push_size _ rfl⟩
  have s1 : Same H (upd H s.heap.objs.size (.lst [])) := Same.upd (Same.refl _) hP
  generalize hPa : s.heap.objs.size = Pa at *
  generalize hs1 : ({ s with heap := s.heap.push { cls := .type "list", data := .seq #[] }, toks := s.toks } : Shared) = st1 at I1
  have haP : a ≠ Pa := ne_of_none ha hP
  refine codeAny_builtin F.entry_list_repr_loop ?_
  show wpAny _ _ («list.__repr__.loop» ⟨[.ref a, .int 0 0, .ref Pa, .int 0 0], []⟩) _ _ _
  rw [repr_loop_tree]
  obtain ⟨its1, m1, rv1, ho1, _⟩ := I1.lst (p := a) (s1 _ _ ha)
  obtain ⟨v1, rfl, rv1'⟩ := rv1.one
  cases (show v1 = Value.ref x from rv1')
  subst hs1
  refine wpAny_bind (wpAny_listItems ho1 rfl ?_)
  simp only [show ((0 : Int).toNat) = 0 from rfl, show ([Value.ref x].toArray)[0]? = some (Value.ref x) from rfl]
  refine wpAny_bind (wpAny_holding (item_repr (b := 1) hm G (room_loop hr _ _ _ _) (by rw [units_under_list_loop]; show X.A.units + 1 + 1 < cLine; omega) (by decide) (env_loop I1.env0 _) I1 (s1 _ _ hx) (hsp _ s1) fun s2 I2 => ?_))
  refine wpAny_bind (wpAny_mkStr ?_ (by rw [sizeLine_eq]; omega))
  refine wpAny_bind ?_
  show wpAny _ _ (updateSeq Pa _) _ _ _
  obtain ⟨its2, m2, rv2, ho2, _⟩ := I2.lst (p := Pa) upd_same
  cases rv2
  refine wpAny_updateSeq ho2 rfl (wpAny_pure ⟨F.quiet_list_repr_loop _, ?_⟩) (by decide)
  have I3 := (I2.tok (s2.toks + 1)).lstUpd (p := Pa) (xs := []) (ys := [.str z]) (its := []) (its' := [Value.str z s2.toks]) (n' := m2 + 1) (f := Obj.mapSeq fun x => x.push (Value.str z s2.toks)) upd_same ho2 rfl (.cons ⟨_, rfl⟩ .nil) (by show 1 ≤ sizeLine; decide) (s2.toks + 1)
  have s3 : Same H (upd (upd H Pa (.lst [])) Pa (.lst [.str z])) := fun c o h => by
    rw [upd_ne (ne_of_none h hP), upd_ne (ne_of_none h hP)]
    exact h
  obtain ⟨its4, m4, rv4, ho4, _⟩ := I3.lst (p := a) (s3 _ _ ha)
  obtain ⟨v4, rfl, rv4'⟩ := rv4.one
  cases (show v4 = Value.ref x from rv4')
  obtain ⟨its5, m5, rv5, ho5, _⟩ := I3.lst (p := Pa) upd_same
  obtain ⟨v5, rfl, rv5'⟩ := rv5.one
  obtain ⟨t5, e5⟩ := (show ∃ t, v5 = Value.str z t from rv5')
  subst e5
  refine codeAny_builtin F.entry_list_repr_loop ?_
  show wpAny _ _ («list.__repr__.loop» ⟨[.ref a, .int 1 0, .ref Pa, .int _ 0], []⟩) _ _ _
  rw [repr_loop_tree]
  refine wpAny_bind (wpAny_listItems ho4 rfl ?_)
  simp only [show ((1 : Int).toNat) = 1 from rfl, show ([Value.ref x].toArray)[1]? = none from rfl]
  unfold reprEnd
  refine wpAny_bind (wpAny_listItems ho5 rfl ?_)
  show wpAny _ _ (forIn ((strValues [(z, t5)]).zipIdx 0) ("[" : Str) reprBody >>= _) _ _ _
  rw [repr_fold]
  refine wpAny_bind (wpAny_pure ?_)
  refine wpAny_bind (wpAny_mkStr (wpAny_pure ?_) ?_)
  · exact ⟨_, _, rfl, .str (listText [z]), _, I3.tok _, ⟨_, rfl⟩, q _ s3⟩
  · show (listText [z]).length ≤ sizeLine
    have e : listText [z] = ((Str.ofString "[" ++ Str.ofString "") ++ z) ++ Str.ofString "]" := rfl
    have e1 : (Str.ofString "[").length = 1 := by decide +kernel
    have e2 : (Str.ofString "").length = 0 := by decide +kernel
    have e3 : (Str.ofString "]").length = 1 := by decide +kernel
    rw [e]
    simp only [Str.length_append, e1, e2, e3, sizeLine_eq]
    omega
end
end Ah

/-! dict comprehensions with tuple keys -/
namespace L2
open PySem PySem.Spec PyProof.Rows
theorem d_dictSetT {X : Cx} {pins : List (Addr × Obj)} {σ : St} {H : Hp} {s : Shared} {E : Value → Shared → Prop} {D b : Addr} {kvs : List (List Key × V)} {k : List Key} {v : V} {u r : Value} {Q : Unit → Shared → Prop} (hu : X.A.units + 1 < cLine) (I : Inv X pins σ H s) (hD : H D = some (.dT kvs)) (hz : kvs.length < sizeLine)
    (hb : H b = some (.tup (k.map kV))) (ry : RelV (.ref b) u) (rv : RelV v r) (h : ∀ s', Inv X pins σ (upd H D (.dT (putK kvs k v))) s' → Q () s') : wpAny (model X.prog X.w) X.A (dictSet D u r) Q E s := by
  cases (show u = Value.ref b from ry)
  obtain ⟨z, hd, xs, rel, dd⟩ := dt_of I.hok hD
  have hzx : xs.length ≤ sizeLine := by rw [← Paired.length rel]; exact z
  have hl : (putK kvs k v).length ≤ sizeLine := by have := length_putK kvs k v; omega
  refine wpAny_dictSet_heap (hsz := hzx) (Nat.lt_of_succ_lt hu) (key_of I.hok hb) dd fun h' dd' hs => h _ ?_
  obtain ⟨q, es, ep, hq, h2, h3, h4, _, h5⟩ := dd'
  refine d_write I (by rw [hD]; exact True.intro) hs ⟨q, hq⟩ ⟨hl, hd, _, (rel.put k hb rv).keeps fun c ys ec => ?_, q, es, ep, hq, h2, h3, h4, h5⟩
  rw [upd_ne (ne_of ec hD (fun z => nomatch z))]
  exact ec
section
variable {X : Cx}
/-- {k: v for target in iter if ..}, keys tuples: D the new dict -/
def tDcT (wi : TI) (g : TG) (tt : TT) (tk tv : TE) (vs : List Nat) : TE := fun σ H Q => wi σ H fun J H1 => ∀ D, H1 D = none → ∃ W : Nat → Nat → Hp → Prop, (∃ m, W 0 m (upd H1 D (.dT []))) ∧ ∀ i m H, W i m H →
  (J.stop i H ∧ Q (.ref D) H) ∨ (J.go i H ∧ ∃ Nx : Hp → Prop, (∀ H', Nx H' → ∃ m', m' < m ∧ W (i + 1) m' H') ∧ ∀ x H', J.yld i H x H' → g x (wipe σ vs) H' fun σ2 H2 => wipe σ2 vs = wipe σ vs ∧ tt σ2 H2 fun b H3 =>
    if b = true then tk σ2 H3 fun y H4 => tv σ2 H4 fun z H5 => ∃ kvs k bq, y = .ref bq ∧ H5 bq = some (.tup (List.map kV k)) ∧ H5 D = some (.dT kvs) ∧ kvs.length < sizeLine ∧ Nx (upd H5 D (.dT (putK kvs k z))) else Nx H3)
theorem dcT_core {pins : List (Addr × Obj)} {s : Shared} {σ : St} {H : Hp} {Q : VK} {kx vx tg iter : Expr} {ifs : List Expr} {scope : Scope} {own : List (Str × Nat)} {pos pos' : Pos} {wi : TI} {g : TG} {tt : TT} {tk tv : TE} {use : Option (Value → Sem Unit)} {Qf : Value → Shared → Prop}
    (hu : X.A.units + 1 < cLine) (hc : X.calm = true) (hN : X.N.Nodup) (I : Inv X pins σ H s) (hi : PI X tg iter wi) (ok : BlkOk X.N X.env.scope scope own)
    (hg : ∀ (s : Shared) (H : Hp) (C : Addr) (cl : List (Str × Addr)) (fp : List Addr), PG (X.blk s H scope (compEnvC scope cl C X.env) fp) tg g) (ht : ∀ (s : Shared) (H : Hp) (C : Addr) (cl : List (Str × Addr)) (fp : List Addr), PTs (X.blk s H scope (compEnvC scope cl C X.env) fp) ifs tt)
    (hk : ∀ (s : Shared) (H : Hp) (C : Addr) (cl : List (Str × Addr)) (fp : List Addr), PE (X.blk s H scope (compEnvC scope cl C X.env) fp) kx tk)
    (he : ∀ (s : Shared) (H : Hp) (C : Addr) (cl : List (Str × Addr)) (fp : List Addr), PE (X.blk s H scope (compEnvC scope cl C X.env) fp) vx tv) (hs : ∀ x, foldedSetIterable iter X.env x = pure x)
    (h : tDcT wi g tt tk tv (own.map (·.2)) σ H Q)
    (hRR : ∀ D C s' m H', Inv X pins σ H' s' → Q (.ref D) H' → s'.heap.Ns C m → FpOk X pins H' C → compPost (model X.prog X.w) X.A X.xe use Qf (.ref D) C (.ok .next) s') :
    wpAny (model X.prog X.w) X.A (comprehension (.DictComp kx vx [⟨tg, iter, ifs, 0⟩] scope pos) scope X.env pos' newDict false (eval iter X.env) use) Qf X.xe s := by
  have hfree : ∀ y ∈ scope.names, y.2 = .free → ∃ c, X.env.cells.lookup y.1 = some c := fun y hy e => by
    rcases ok.free y hy e with k | k
    · exact I.ok.has _ (.inl k)
    · exact I.ok.has _ (.inr k)
  refine wpAny_comprehension_free (use := use) rfl hs (closure_ok hfree) ok.kind (fun y hy e => by rw [ok.uniq y hy, e])
    (thn (hi.run pins s σ H _ I h) fun xv s1 hx => thn hx fun itv s2 h2 => ?_)
  obtain ⟨it, fp, tn, J, H2, e, I2, T, st2, f2, q⟩ := h2
  subst e
  refine wpAny_newObj_type (newEnv_comp ?_)
  generalize hD : s2.heap.objs.size = D
  have hDn : H2 D = none := I2.hok.fresh (Nat.le_of_eq hD)
  obtain ⟨W, ⟨m0, w0⟩, turn⟩ := q D hDn
  -- the new list
  generalize hs3 : ({ s2 with heap := s2.heap.push { cls := .type "dict", data := .dict #[] } } : Shared) = s3
  have I3 : Inv X pins σ (upd H2 D (.dT [])) s3 := by
    rw [← hs3]
    refine I2.laid (t' := s2.toks) (fun b o e => Heap.get?_push_of_some _ e) (Nat.le_of_eq hD) ?_
    rw [← hD]
    exact dt_empty s2.heap I2.big
  have h3 : s3.heap = s2.heap.push { cls := .type "dict", data := .dict #[] } := by rw [← hs3]
  have sz : ∀ b ∈ fp, b < s2.heap.objs.size := fun b hb => by
    obtain ⟨o, e, _⟩ := T.obj _ _ st2 b hb
    exact Heap.lt_size e
  have f3 : ∀ b ∈ fp, FpOk X pins (upd H2 D (.dT [])) b ∧ b < s3.heap.objs.size := fun b hb => by
    have hlt := sz b hb
    refine ⟨⟨?_, (f2 b hb).2⟩, by rw [h3, Heap.size_push]; exact Nat.lt_succ_of_lt hlt⟩
    rw [upd_ne (by rw [← hD]; exact Nat.ne_of_lt hlt)]
    exact (f2 b hb).1
  have st3 : tn 0 s3.heap := T.keep _ _ _ st2 fun b _ o e => by rw [h3]; exact Heap.get?_push_of_some _ e
  have I4 := block_start I3 ok hN f3
  have pg := hg s3 (upd H2 D (.dT [])) s3.heap.objs.size (cellsFrom (s3.heap.objs.size + 1) scope.names (cloFrom X.env.cells scope.names [])) fp
  have pt := ht s3 (upd H2 D (.dT [])) s3.heap.objs.size (cellsFrom (s3.heap.objs.size + 1) scope.names (cloFrom X.env.cells scope.names [])) fp
  have pk := hk s3 (upd H2 D (.dT [])) s3.heap.objs.size (cellsFrom (s3.heap.objs.size + 1) scope.names (cloFrom X.env.cells scope.names [])) fp
  have pe := he s3 (upd H2 D (.dT [])) s3.heap.objs.size (cellsFrom (s3.heap.objs.size + 1) scope.names (cloFrom X.env.cells scope.names [])) fp
  show codeAny _ _ (.compStart (.DictComp kx vx [⟨tg, iter, ifs, 0⟩] scope pos) 0 (.ref it) (.ref D) (compEnvC scope (cellsFrom (s3.heap.objs.size + 1) scope.names (cloFrom X.env.cells scope.names [])) s3.heap.objs.size X.env)) (compPost (model X.prog X.w) X.A X.xe use Qf (.ref D) s3.heap.objs.size) { s3 with heap := pushCells (s3.heap.push { cls := .type "dict", data := .dict #[] }) scope.names }
  have nfp : ∀ b ∈ fp, (upd H2 D (.dT [])) b = none := fun b hb => (f3 b hb).1.1
  generalize hce : compEnvC scope (cellsFrom (s3.heap.objs.size + 1) scope.names (cloFrom X.env.cells scope.names [])) s3.heap.objs.size X.env = ce at I4 pg pt pk pe ⊢
  have cL : ce.locals = s3.heap.objs.size := by subst hce; rfl
  generalize hH3 : upd H2 D (.dT []) = H3 at I3 I4 pg pt pk pe w0 nfp f3
  generalize hs4 : ({ s3 with heap := pushCells (s3.heap.push { cls := .type "dict", data := .dict #[] }) scope.names } : Shared) = s4 at I4 ⊢
  have st4 : tn 0 s4.heap := T.keep _ _ _ st3 fun b _ o e => by rw [← hs4]; exact pushCells_keeps _ _ _ _ (Heap.get?_push_of_some _ e)
  have stat : ∀ {σ' : St} {H' : Hp} {s' : Shared}, Inv (X.blk s3 H3 scope ce fp) [] σ' H' s' → (∀ b ∈ fp, H' b = none) → ∀ b ∈ fp, FpOk (X.blk s3 H3 scope ce fp) [] H' b := fun {σ' H' s'} I' hn b hb =>
    ⟨hn b hb, (I'.ok.exf b hb).1, I'.ok.exfs b hb, .inl hb, fun x c e => (I'.ok.exf b hb).2 x c e, fun p hp => absurd (show p ∈ ([] : List (Addr × Obj)) ++ [] from hp) (by simp)⟩
  have loop : codeAny (model X.prog X.w) X.A (.compLoop (.DictComp kx vx [⟨tg, iter, ifs, 0⟩] scope pos) 0 (.ref it) (.ref D) ce) (compPost (model X.prog X.w) X.A X.xe use Qf (.ref D) s3.heap.objs.size) s4 := by
    refine compLoop_anyD (fun n s' => ∃ i H', Inv (X.blk s3 H3 scope ce fp) [] (wipe σ (own.map (·.2))) H' s' ∧ tn i s'.heap ∧ (∀ b ∈ fp, H' b = none) ∧ W i n H') ?_ m0 ⟨0, H3, I4, st4, nfp, w0⟩
    rintro n s5 ⟨i, H5, I5, st5, n5, w5⟩
    rcases turn i n H5 w5 with ⟨stop, qq⟩ | ⟨go, Nx, hNx, step⟩
    · have td := T.done (X.blk s3 H3 scope ce fp) rfl rfl rfl hc i [] s5 _ H5 (fun _ _ => False) I5 (stat I5 n5) st5 stop
      refine thnF td fun r s6 ⟨hr, I6⟩ => ?_
      subst hr
      -- back in the def's context
      have I7 : Inv X pins σ H5 s6 := I3.call' (ch := fp) I6.os I6.base I6.hok I6.bare fun b hb => ⟨(f3 b hb).1.2.2.2.1, (f3 b hb).1.2.1, (f3 b hb).1.2.2.2.2.1, (f3 b hb).1.2.2.2.2.2⟩
      have nC : H5 s3.heap.objs.size = none := by
        have z : H5 ce.locals = none := I6.free
        rw [cL] at z
        exact z
      obtain ⟨m, hn, _⟩ := I6.loc
      have hn : s6.heap.Ns ce.locals m := hn
      rw [cL] at hn
      exact hRR D s3.heap.objs.size s6 m H5 I7 qq hn (I3.fpOk (Nat.le_refl _) nC)
    · have ti := T.item (X.blk s3 H3 scope ce fp) rfl rfl rfl hc i [] s5 _ H5 (fun _ _ => False) I5 (stat I5 n5) st5 go
      refine thnF ti fun r s6 ⟨u, hr, h6⟩ => ?_
      subst hr
      refine thnF h6 fun _ s7 ⟨x, H7, I7, r7, y7, st7, n7⟩ => ?_
      have I7' := I7.pinned (stat I7 n7) (T.obj _ _ st7)
      refine thnF (pg.run _ s7 _ H7 x u _ I7' r7 (step x H7 y7)) fun _ s8 ⟨σ8, H8, I8, hw8, q8⟩ => ?_
      refine thnF (pt.run _ s8 σ8 H8 _ I8 q8) fun b s9 ⟨H9, I9, q9⟩ => ?_
      -- the turn's end
      have fin : ∀ {s' : Shared} {H' : Hp}, Inv (X.blk s3 H3 scope ce fp) ([] ++ pinsAt fp s7.heap) σ8 H' s' → Nx H' → ∃ m, m < n ∧ ∃ i H', Inv (X.blk s3 H3 scope ce fp) [] (wipe σ (own.map (·.2))) H' s' ∧ tn i s'.heap ∧ (∀ b ∈ fp, H' b = none) ∧ W i m H' := fun {s' H'} I' nx => by
        obtain ⟨m', hm, w'⟩ := hNx H' nx
        have pin' : ∀ b ∈ fp, ∀ o, s7.heap.get? b = some o → s'.heap.get? b = some o ∧ H' b = none := fun b hb o e =>
          let z := I'.pin (b, o) (List.mem_append_right _ (List.mem_append_right _ (mem_pinsAt hb e)))
          ⟨z.1, z.2.1⟩
        have hl : (wipe σ (own.map (·.2))).length = σ8.length := by rw [← hw8, wipe_length]
        refine ⟨m', hm, i + 1, H', (I'.unpinned (pins := [])).weak hl (fun j v e => ?_), T.keep _ _ _ st7 fun b hb o e => (pin' b hb o e).1, fun b hb => ?_, w'⟩
        · rw [← hw8] at e
          exact (wipe_some e).1
        · obtain ⟨o, e, _⟩ := T.obj _ _ st7 b hb
          exact (pin' b hb o e).2
      cases b with
      | false =>
        simp only [Bool.false_eq_true, if_false] at q9 ⊢
        exact fin I9 q9
      | true =>
        simp only [if_true] at q9 ⊢
        refine thnF (pk.run _ s9 σ8 H9 _ I9 q9) fun z s10 ⟨yk, H10, I10, r10, q10⟩ => ?_
        refine thnF (pe.run _ s10 σ8 H10 _ I10 q10) fun z2 s11 ⟨yv, H11, I11, r11, kvs, k, bq, ek, hb11, hD11, hz11, nx⟩ => ?_
        subst ek
        exact d_dictSetT (X := X.blk s3 H3 scope ce fp) hu I11 hD11 hz11 hb11 r10 r11 fun s12 I12 => fin I12 nx
  exact codeAny_compStart_dict loop (T.self X.A 0 _ _ _ st4 loop)
/-- as a value -/
theorem pe_dcT {kx vx tg iter : Expr} {ifs : List Expr} {scope : Scope} {own : List (Str × Nat)} {pos : Pos} {wi : TI} {g : TG} {tt : TT} {tk tv : TE} (hu : X.A.units + 1 < cLine) (hc : X.calm = true) (hN : X.N.Nodup) (hi : PI X tg iter wi) (ok : BlkOk X.N X.env.scope scope own)
    (hg : ∀ (s : Shared) (H : Hp) (C : Addr) (cl : List (Str × Addr)) (fp : List Addr), PG (X.blk s H scope (compEnvC scope cl C X.env) fp) tg g) (ht : ∀ (s : Shared) (H : Hp) (C : Addr) (cl : List (Str × Addr)) (fp : List Addr), PTs (X.blk s H scope (compEnvC scope cl C X.env) fp) ifs tt)
    (hk : ∀ (s : Shared) (H : Hp) (C : Addr) (cl : List (Str × Addr)) (fp : List Addr), PE (X.blk s H scope (compEnvC scope cl C X.env) fp) kx tk)
    (he : ∀ (s : Shared) (H : Hp) (C : Addr) (cl : List (Str × Addr)) (fp : List Addr), PE (X.blk s H scope (compEnvC scope cl C X.env) fp) vx tv) (hs : ∀ x, foldedSetIterable iter X.env x = pure x := by intro _; rfl) :
    PE X (.DictComp kx vx [⟨tg, iter, ifs, 0⟩] scope pos) (tDcT wi g tt tk tv (own.map (·.2))) := by
  refine ⟨fun pins s σ H Q I h => ?_⟩
  rw [arm_eval_DictComp]
  refine dcT_core hu hc hN I hi ok hg ht hk he hs h fun D C s' m H' I' q hn f => ⟨m, hn, fun h'' sb => ?_⟩
  obtain ⟨f0, f1, f2, f3, f4, f5⟩ := f
  exact ⟨.ref D, H', I'.turned (t' := s'.toks) (fun b o hb e => (sb.2 b hb).trans e) f0 f1 f3 f4 f5, rfl, q⟩

end
end L2

/-! sorted(d), d a dict whose keys are points; own &; {x!r} of data -/
namespace Ah
open PySem PySem.Spec PySem.Calls PyProof.Rows L2 He SrtO
def ptKey (p : Pt) : List Key := [Sum.inl p.1, Sum.inr p.2]
theorem pts_isKeys {H : Hp} {kvs : List (List Key × V)} {bs : List Addr} (h : IsKeys H kvs bs) : ∀ {ps : List Pt}, kvs.map (·.1) = ps.map ptKey → PtsAt H bs ps := by
  unfold IsKeys at h
  induction h with
  | nil =>
    intro ps e
    cases ps with
    | nil => exact .nil
    | cons p ps => cases e
  | @cons kv b kvs bs hb _ ih =>
    intro ps e
    cases ps with
    | nil => cases e
    | cons p ps =>
      rw [List.map_cons, List.map_cons] at e
      have e1 := List.cons.inj e
      refine .cons ?_ (ih e1.2)
      rw [e1.1] at hb
      exact hb
def rSortDT : List V → Hp → VK → Prop := fun vs H Q => ∃ (d : Addr) (kvs : List (List Key × V)) (ps : List Pt), vs = [.ref d] ∧ Rd H d (.dT kvs) ∧ kvs.map (·.1) = ps.map ptKey ∧
  ∀ r bs qs, H r = none → PtsAt H bs qs → qs.Perm ps → PtOrd qs → Q (.ref r) (upd H r (.lst (bs.map V.ref)))
section
variable {X : Cx}
theorem cr_sortDT (hc : X.calm = true) : CallR X (.builtin "sorted") rSortDT := by
  intro pins s σ H xs us Q I r h
  obtain ⟨d, kvs, ps, rfl, hd, hks, q⟩ := h
  obtain ⟨u, rfl, rx⟩ := r.one
  cases (show u = Value.ref d from rx)
  obtain ⟨z, hs, ks, pr, o, es, ep, ho, hx, hdt, he, hn⟩ := (show ObjOk X.prog X.w H s.heap d (.dT kvs) from hd.ok I.hok)
  have l1 : es.size = ks.length := size_of_entries he
  have l2 : kvs.length = ks.length := Paired.length pr
  refine Calls.call_function_entry PyProof.Rows.kind_sorted PyProof.Rows.plain_sorted PyProof.Rows.entry_sorted (PyProof.Rows.args_sorted1 _) ?_
  unfold Builtin.«sorted»
  refine wpAny_bind (m := checkCount "sorted" 1 1 _) (wpAny_pure ?_)
  refine wpAny_bind (PySem.W.kdu_collect (A := X.A.in1) (kdl_raw hs hx hdt) (I.ok.hd hc) ho (by omega) fun h' tk acc hk hacc => ?_)
  have ea : acc.toList = (ks.map fun x => x.2.1).map Value.ref := by
    have hl : acc.toList.length = ks.length := by rw [Array.length_toList, hacc.1]; exact l1
    rw [List.map_map]
    apply List.ext_getElem?
    intro j
    rw [List.getElem?_map]
    cases hj : acc.toList[j]? with
    | none =>
      have h1 := List.getElem?_eq_none_iff.mp hj
      rw [List.getElem?_eq_none (by omega)]
      all_goals rfl
    | some v =>
      obtain ⟨en, hen, hv⟩ := hacc.2 j v (by rw [← Array.getElem?_toList]; exact hj)
      have qe := entry_at he j
      rw [hen] at qe
      cases hb : ks[j]? with
      | none =>
        rw [hb] at qe
        exact nomatch (show some en = none from qe)
      | some b =>
        rw [hb] at qe
        have e2 : en = entryOfKey (tupleKind (mixKind X.prog X.w)) b := Option.some.inj qe
        rw [hv, e2]
        all_goals rfl
  have hp : PtsAt H (ks.map fun x => x.2.1) ps := pts_isKeys (isKeys_of pr) hks
  generalize hAs : (ks.map fun x => x.2.1) = as at ea hp
  have lA : as.length = ks.length := by rw [← hAs, List.length_map]
  have I1 : L2.Inv X pins σ H { s with heap := h', toks := tk } := I.kept hk
  rw [ea]
  have hzz : (as.map Value.ref).length ≤ sizeLine := by rw [List.length_map]; omega
  refine wpAny_bind (wpAny_newList ?_ hzz)
  have hoL : (h'.push (seqObj "list" (as.map Value.ref).toArray 0)).get? h'.objs.size = some (seqObj "list" (as.map Value.ref).toArray 0) := Heap.get?_push_size _ rfl
  show wpAny _ _ _ _ _ { s with heap := h'.push (seqObj "list" (as.map Value.ref).toArray 0), toks := tk }
  let k : Value → Pt := fun v => match v with | .ref a => ptOf H a | _ => (0, Str.empty)
  have hkk : ∀ v ∈ as.map Value.ref, IsPtO (h'.push (seqObj "list" (as.map Value.ref).toArray 0)) v (k v) := fun v hv => by
    obtain ⟨a, ha, rfl⟩ := List.mem_map.mp hv
    obtain ⟨_, its2, r2, o, ho, hc, n, hd⟩ := I1.hok _ _ (hp.of_mem a ha)
    obtain ⟨u1, u2, rfl, ri, rj⟩ := vals2 r2
    obtain ⟨t1, rfl⟩ := ri
    obtain ⟨t2, rfl⟩ := rj
    exact ⟨a, o, t1, t2, n, rfl, Heap.get?_push_of_some _ ho, hc, hd⟩
  refine wpAny_bind (wpAny_holding (wpAny_call_entry PyProof.Rows.slot_list_sort ⟨_, hoL, rfl⟩ PyProof.Rows.entry_list_sort
    (list_sort_ord (s := { s with heap := h'.push (seqObj "list" (as.map Value.ref).toArray 0), toks := tk }) (swo_pt k) hoL hzz (fun h2 => pts_sortable (by omega) hkk (fun o' e => ?_)) fun out h1 h2 => ⟨_, rfl, ?_⟩) (PyProof.Rows.args_list_sort _)))
  · have e' : some o' = some (seqObj "list" (as.map Value.ref).toArray 0) := e.symm.trans hoL
    cases e'
    intro c
    exact absurd (Value.type.inj c) (by decide)
  obtain ⟨bs, rfl⟩ : ∃ bs : List Addr, out = bs.map Value.ref := by
    have hm : ∀ u ∈ out, ∃ a, u = Value.ref a := fun u hu => by
      obtain ⟨a, _, e⟩ := List.mem_map.mp (h2.perm.mem_iff.mp hu)
      exact ⟨a, e.symm⟩
    clear h1 h2
    induction out with
    | nil => exact ⟨[], rfl⟩
    | cons u out ih =>
      obtain ⟨a, rfl⟩ := hm u (List.mem_cons_self)
      obtain ⟨bs, rfl⟩ := ih fun v hv => hm v (List.mem_cons_of_mem _ hv)
      exact ⟨a :: bs, rfl⟩
  have pm : bs.Perm as := by
    have z := h2.perm.map (fun v : Value => match v with | .ref a => a | _ => 0)
    rw [List.map_map, List.map_map] at z
    simpa [Function.comp_def] using z
  obtain ⟨e', he'⟩ := PyProof.Rows.sortedHeap_at (vs := as.map Value.ref) (out := (bs.map Value.ref).toArray) hoL
  refine wpAny_pure ⟨_, rfl, .ref h'.objs.size, upd H h'.objs.size (.lst (bs.map V.ref)), I1.laid (t' := tk) (fun b u e => ?_) (Nat.le_refl _) (show ObjOk X.prog X.w _ _ _ (.lst (bs.map V.ref)) from ⟨?_, bs.map Value.ref, e', Ah.vals_refs bs, he'⟩), rfl, q _ bs (bs.map (ptOf H)) (I1.hok.fresh (Nat.le_refl _)) (ptsAt_map fun a ha => hp.of_mem a (pm.mem_iff.mp ha)) ?_ ?_⟩
  · have hb : b < h'.objs.size := Heap.lt_size e
    rw [PyProof.Rows.sortedHeap_old (Nat.ne_of_lt hb) (by rw [size_push']; exact Nat.lt_succ_of_lt hb)]
    exact Heap.get?_push_of_some _ e
  · rw [List.length_map, pm.length_eq]
    omega
  · rw [← hp.map]
    exact pm.map _
  · have z : List.Pairwise _ (bs.map Value.ref) := h1
    rw [List.pairwise_map] at z
    unfold PtOrd
    rw [List.pairwise_map]
    exact z
end
end Ah

/-! own &, {x!r} of data, tuple in list, == of lists of own instances, a method with a starred parameter and no arguments -/
namespace Ah
open PySem PySem.Spec PySem.W PySem.Calls PyProof.Rows L2 He
section
variable {X : Cx} {k j : Nat} {f C : Addr} {sp : Sp} {E : XK}
/-- x & y by the own __and__ of C, both of the class C -/
def rBinO (C : Addr) (sp : Sp) (E : XK) : R2 := fun x y H Q => ∃ a dx fs b dy gs, x = .ref a ∧ y = .ref b ∧ H a = some (.ins C dx fs) ∧ H b = some (.ins C dy gs) ∧ sp [x, y] H Q E
theorem op_andO (hm : Meth X.K C "__and__" f) (hc : selfFirst X.K C = true) (F : FnB X.prog X.w X.K X.mg X.base k f sp) (hr : Rm j X.A) (hx : Passes (L2.CX X.prog X.w) X E) (hk : k ≤ j := by decide) : OpR X (binaryOp .BitAnd) (rBinO C sp E) := by
  intro pins s σ H x y v u Q I rx ry h
  obtain ⟨a, dx, fs, b, dy, gs, rfl, rfl, ha, hb, q⟩ := h
  cases (show v = Value.ref a from rx)
  cases (show u = Value.ref b from ry)
  obtain ⟨mA, O, _⟩ := ins_get I.hok ha
  obtain ⟨od, J, _⟩ := O.look
  obtain ⟨mB, O2, _⟩ := ins_get I.hok hb
  obtain ⟨od2, J2, _⟩ := O2.look
  obtain ⟨m, hF⟩ := I.fr
  refine binop_K (op := .BitAnd) hF I.ok.mod.kin J (J2.type) hc hm.at_ hm.fn ?_
  refine wpAny_mono (wpAny_call (runB (us := [.ref a, .ref b]) (vs := [.ref a, .ref b]) F (hr.mono hk) I.env0 hx I (.cons rfl (.cons rfl .nil)) q)) (fun w s' z => ?_) fun _ _ x => x
  obtain ⟨z', H', I', rz, qz⟩ := z
  have z2 : EP X pins σ Q w s' := ⟨z', H', I', rz, qz⟩
  cases w with
  | notImplemented => cases z' <;> first | exact nomatch rz | (obtain ⟨t, e⟩ := rz; exact nomatch e)
  | _ => exact z2
/-- {x!r} of data behind an address -/
def tFmtRD (K : Frag) (te : TE) : TE := fun σ H Q => te σ H fun x H1 => ∃ (a : Addr) (d : PyData), x = .ref a ∧ Dp K H1 x d ∧ d.showable = true ∧ d.hasDict = false ∧ d.depth ≤ 64 ∧ d.shown.length ≤ sizeLine ∧ Q (.str d.shown) H1
theorem pe_fmtRD {e : Expr} {te : TE} {pos : Pos} (hg : X.A.guards = some []) (hu : X.A.units + 64 < cLine) (he : PE X e te) : PE X (.FormattedValue e 114 none pos) (tFmtRD X.K te) := by
  refine ⟨fun pins s σ H Q I h => ?_⟩
  refine wpAny_FormattedValue_repr (thn (he.run pins s σ H _ I h) fun v s1 hv => ?_)
  obtain ⟨x, H1, I1, r1, a, d, rfl, hd, h1, h2, h3, h4, q⟩ := hv
  cases (show v = Value.ref a from r1)
  obtain ⟨as, rd⟩ := Dp.reads I1 d _ _ hd r1
  refine pyReprObj_of_reads rd h1 (fun z => by rw [h2] at z; cases z) hg (by omega) (fun _ _ z => z) (fun h' t tk hk => ?_) h4
  have I2 := I1.kept (t' := tk) hk
  exact wpAny_formatField_str ⟨.str d.shown, H1, I2, ⟨_, rfl⟩, q⟩ ⟨.str d.shown, H1, I2.tok _, ⟨_, rfl⟩, q⟩ h4
/-- x not in l, l a list of points -/
def rNotInP (K : Frag) : R2 := fun x y H Q => ∃ (a l : Addr) (p : Pt) (as : List Addr) (ps : List Pt), x = .ref a ∧ y = .ref l ∧ PtAt H a p ∧ SqL K H l (as.map V.ref) ∧ PtsAt H as ps ∧ Q (.bl (!decide (p ∈ ps))) H
theorem PtsAt.dps {K : Frag} {H : Hp} {as : List Addr} {ps : List Pt} (h : PtsAt H as ps) : DpAll K H (as.map V.ref) (ps.map ptD) := by
  induction h with
  | nil => exact .nil
  | cons h _ ih => exact .cons h.dp ih
theorem plain_ptD (p : Pt) : (ptD p).plain = true := rfl
theorem plainAll_pts : ∀ ps : List Pt, PyData.plainAll (ps.map ptD) = true
  | [] => rfl
  | p :: ps => by
    show ((ptD p).plain && PyData.plainAll (ps.map ptD)) = true
    rw [plain_ptD, plainAll_pts ps]
    rfl
theorem eqv_ptD (p q : Pt) : PyData.eqv (ptD p) (ptD q) = decide (p = q) := by
  obtain ⟨n, z⟩ := p
  obtain ⟨m, y⟩ := q
  show ((decide (n = m)) && ((decide (z = y)) && true)) = _
  by_cases h1 : n = m <;> by_cases h2 : z = y <;> simp [h1, h2]
theorem op_notInP (hu : X.A.units + 64 < cLine) : OpR X (compareOp .NotIn) (rNotInP X.K) := by
  intro pins s σ H x y v u Q I rx ry h
  obtain ⟨a, l, p, as, ps, rfl, rfl, hp, hl, hps, q⟩ := h
  obtain ⟨bs, r1⟩ := Dp.reads I _ _ v hp.dp rx
  have hd : Dp X.K H (.ref l) (.list (ps.map ptD)) := .lst hl hps.dps
  obtain ⟨cs, r2⟩ := Dp.reads I _ _ u hd ry
  refine SeqAt.notIn_list_data r2 r1 (plainAll_pts ps) (plain_ptD p) ?_ ?_
  · have : (ptD p).depth = 1 := rfl
    rw [this]
    have : min (PyData.depthAll (ps.map ptD)) 1 ≤ 1 := Nat.min_le_right _ _
    omega
  · have e : ((ps.map ptD).any fun y => PyData.eqv y (ptD p)) = decide (p ∈ ps) := by
      rw [List.any_map]
      apply Bool.eq_iff_iff.mpr
      simp only [List.any_eq_true, Function.comp_apply, eqv_ptD, decide_eq_true_eq]
      constructor
      · rintro ⟨x, hx, rfl⟩
        exact hx
      · intro hx
        exact ⟨p, hx, rfl⟩
    rw [e]
    exact ⟨.bl _, H, I, rfl, q⟩
end
end Ah

/-! == of two lists whose items are equal by their own __eq__ -/
namespace PySem.SeqAt
open AutoSeq1 (wpAny_loadPart')
open MeetsSeq MeetsSeq2 MeetsSeq3 SeqRoads2
section
variable {prog : Program} {w : World}
theorem eq_loopP (l b : Addr) (items items2 : Array Value) (hsz : items.size = items2.size) (P : Shared → Prop) (k : Nat) :
    ∀ i : Nat, items.size - i = k → MeetsIn prog w (Builtin.«list.__eq__.loop» ⟨[.ref l, .ref b, rawInt i, rawInt 2], []⟩)
      (fun A R s => P s ∧ (∀ s, P s → s.heap.IsList l items ∧ s.heap.IsList b items2) ∧
        (∀ j (h1 : j < items.size) (h2 : j < items2.size) s, P s → wpAny (model prog w) A.in1 (eqBool items[j] items2[j]) (fun c s' => c = true ∧ P s') (fun e s' => R (.error e) s') s) ∧
        ∀ s', P s' → R (.ok (.ret (.bool true))) s') := by
  induction k with
  | zero =>
    intro i hk A R s h
    obtain ⟨p, ls, he, h⟩ := h
    obtain ⟨⟨⟨cls, dd, data, sl⟩, hl, hc, n, hd⟩, ⟨cls2, dd2, data2, sl2⟩, hb, hc2, n2, hd2⟩ := ls s p
    simp only at hc hd hc2 hd2
    subst hc hd hc2 hd2
    obtain ⟨hp, g, d, tk, os⟩ := s
    wp_walk using wpAny_loadPart' hl, wpAny_loadPart' hb
    have hi1 : items[((i : Nat) : Int).toNat]? = none := by simp; omega
    have hi2 : items2[((i : Nat) : Int).toNat]? = none := by simp; omega
    rw [hi1, hi2]
    wp_walk using wpAny_loadPart' hl, wpAny_loadPart' hb
    show R (.ok (.ret (.bool (items.size == items2.size)))) _
    rw [hsz, beq_self_eq_true]
    exact h _ p
  | succ k ih =>
    intro i hk A R s h
    obtain ⟨p, ls, he, h⟩ := h
    obtain ⟨⟨⟨cls, dd, data, sl⟩, hl, hc, n, hd⟩, ⟨cls2, dd2, data2, sl2⟩, hb, hc2, n2, hd2⟩ := ls s p
    simp only at hc hd hc2 hd2
    subst hc hd hc2 hd2
    obtain ⟨hp, g, d, tk, os⟩ := s
    wp_walk using wpAny_loadPart' hl, wpAny_loadPart' hb
    have hlt : i < items.size := by omega
    have hlt2 : i < items2.size := by omega
    have hi1 : items[((i : Nat) : Int).toNat]? = some items[i] := by simp [hlt]
    have hi2 : items2[((i : Nat) : Int).toNat]? = some items2[i] := by simp [hlt2]
    have hc : ((i : Int) + 1) = ((i + 1 : Nat) : Int) := by push_cast; rfl
    rw [hi1, hi2]
    refine wpAny_bind (wpAny_mono (he i hlt hlt2 _ p) (fun c s' hs => ?_) fun _ _ z => z)
    obtain ⟨rfl, p'⟩ := hs
    obtain ⟨hp, g, d, tk, os⟩ := s'
    wp_walk
    rw [hc]
    exact ⟨plainId_quiet plain_eq_loop _, codeAny_builtin entry_eq_loop (by
      rw [Around.under_plainId plain_eq_loop _]
      exact ih (i + 1) (by omega) A R _ ⟨p', ls, he, h⟩)⟩
theorem list_eqP (l b : Addr) (items items2 : Array Value) (hsz : items.size = items2.size) (P : Shared → Prop) :
    MeetsIn prog w (Builtin.«list.__eq__» ⟨[.ref l, .ref b], []⟩)
      (fun A R s => P s ∧ (∀ s, P s → s.heap.IsList l items ∧ s.heap.IsList b items2) ∧
        (∀ j (h1 : j < items.size) (h2 : j < items2.size) s, P s → wpAny (model prog w) A.in1 (eqBool items[j] items2[j]) (fun c s' => c = true ∧ P s') (fun e s' => R (.error e) s') s) ∧
        ∀ s', P s' → R (.ok (.ret (.bool true))) s') := by
  intro A R s h
  obtain ⟨p, ls, he, h⟩ := h
  obtain ⟨⟨⟨cls, dd, data, sl⟩, hl, hc, n, hd⟩, ⟨cls2, dd2, data2, sl2⟩, hb, hc2, n2, hd2⟩ := ls s p
  simp only at hc hd hc2 hd2
  subst hc hd hc2 hd2
  obtain ⟨hp, g, d, tk, os⟩ := s
  have f3 := AutoSeq1.sub_list_list
  have hne : ¬ (items.size != items2.size) = true := by simp [hsz]
  wp_walk using wpAny_loadPart' hl, wpAny_loadPart' hb
  exact ⟨plainId_quiet plain_eq_loop _, codeAny_builtin entry_eq_loop (by
    rw [Around.under_plainId plain_eq_loop _]
    exact eq_loopP l b items items2 hsz P _ 0 rfl A R _ ⟨p, ls, he, h⟩)⟩
theorem rc_listsP {A : Around} {s : Shared} {E : Value → Shared → Prop} {l b : Addr} {items items2 : Array Value} {Q : Value → Shared → Prop} (P : Shared → Prop) (p : P s) (hsz : items.size = items2.size) (hu : A.units < cLine) (ls : ∀ s, P s → s.heap.IsList l items ∧ s.heap.IsList b items2)
    (he : ∀ j (h1 : j < items.size) (h2 : j < items2.size) s, P s → wpAny (model prog w) A.in1 (eqBool items[j] items2[j]) (fun c s' => c = true ∧ P s') E s) (h : ∀ s', P s' → Q (.bool true) s') : wpAny (model prog w) A (richCompare .Eq (.ref l) (.ref b)) Q E s := by
  obtain ⟨⟨⟨cls, dd, data, sl⟩, ho, hc, n, hd⟩, ⟨cls2, dd2, data2, sl2⟩, ho2, hc2, n2, hd2⟩ := ls s p
  simp only at hc hd hc2 hd2
  subst hc hd hc2 hd2
  exact wpAny_richCompare_same_room (T := "list") (op := .Eq) ⟨_, ho, rfl⟩ ⟨_, ho2, rfl⟩ F.slot_list_eq (call_meetsIn F.slot_list_eq ⟨_, ho, rfl⟩ F.entry_list_eq (F.args_list_eq_2 _ _) (list_eqP l b items items2 hsz P)
    ⟨p, ls, he, fun s' p' => show Value.bool true ≠ Value.notImplemented ∧ Q (.bool true) s' from ⟨(fun x => nomatch x), h s' p'⟩⟩) hu
end
end PySem.SeqAt
namespace Ah
open PySem PySem.Spec PySem.W PySem.Calls PyProof.Rows L2 He
section
variable {X : Cx} {k j : Nat} {f C : Addr} {sp : Sp} {E : XK}
/-- l == m, lists of instances that are equal, one by one -/
def rEqLO (K : Frag) (C : Addr) (sp : Sp) : R2 := fun x y H Q => ∃ (a b : Addr) (xs ys : List Addr), x = .ref a ∧ y = .ref b ∧ H a = some (.lst (xs.map V.ref)) ∧ H b = some (.lst (ys.map V.ref)) ∧ xs.length = ys.length ∧
  (∀ (i : Nat) u v H', Same H H' → xs[i]? = some u → ys[i]? = some v → u = v ∨ ∃ dx fs kn, H' u = some (.ins C dx fs) ∧ Is K H' (.ref v) kn ∧ PySem.W.notFirst K C kn.ty = true ∧ sp [.ref u, .ref v] H' (fun z H2 => z = .bl true ∧ Same H H2) E0) ∧ ∀ H', Same H H' → Q (.bl true) H'
theorem op_eqLO (hm : Meth X.K C "__eq__" f) (F : FnB X.prog X.w X.K X.mg X.base k f sp) (hr : Rm j X.A) (hk : k + 1 ≤ j := by decide) : OpR X (compareOp .Eq) (rEqLO X.K C sp) := by
  intro pins s σ H x y v u Q I rx ry h
  obtain ⟨a, b, xs, ys, rfl, rfl, ha, hb, hl, he, q⟩ := h
  cases (show v = Value.ref a from rx)
  cases (show u = Value.ref b from ry)
  have hr1 : Rm (k + 1) X.A := hr.mono hk
  have isl : ∀ (c : Addr) (zs : List Addr) (s' : Shared) (H' : Hp), L2.Inv X pins σ H' s' → H' c = some (.lst (zs.map V.ref)) → s'.heap.IsList c (zs.map Value.ref).toArray := fun c zs s' H' I' hc => by
    obtain ⟨its, r, p, _⟩ := I'.list (SqL.of hc)
    rw [map_unref r] at p
    exact p.isList
  refine SeqAt.rc_listsP (items := (xs.map Value.ref).toArray) (items2 := (ys.map Value.ref).toArray) (fun s' => ∃ H', L2.Inv X pins σ H' s' ∧ Same H H') ⟨H, I, Same.refl _⟩ (by simpa using hl) (hu0 hr) (fun s' ⟨H', I', s1⟩ => ⟨isl a xs s' H' I' (s1 _ _ ha), isl b ys s' H' I' (s1 _ _ hb)⟩) (fun i h1 h2 s' hs => ?_) fun s' hs => ?_
  · obtain ⟨H', I', s1⟩ := hs
    have h1' : i < xs.length := by simpa using h1
    have h2' : i < ys.length := by simpa using h2
    have e1 : (xs.map Value.ref).toArray[i] = Value.ref xs[i] := by simp
    have e2 : (ys.map Value.ref).toArray[i] = Value.ref ys[i] := by simp
    rw [e1, e2]
    unfold eqBool
    refine wpAny_holding ?_
    refine wpAny_ite_split (fun hab => ?_) (fun hab => ?_)
    · exact wpAny_bind (wpAny_rule (wpAny_pure ⟨rfl, H', I', s1⟩))
    · rcases he i xs[i] ys[i] H' s1 (List.getElem?_eq_getElem h1') (List.getElem?_eq_getElem h2') with e | ⟨dx, fs, kn, hx, hy, hn, hsp⟩
      · rw [e] at hab
        exact absurd (beq_self_eq_true _) hab
      · obtain ⟨mA, O, _⟩ := ins_get I'.hok hx
        obtain ⟨od, J, _⟩ := O.look
        obtain ⟨m, hF⟩ := I'.fr
        refine wpAny_bind (PySem.W.cmp_K (op := .Eq) (tb := kn.ty) (by exact hr.hu) hF I'.ok.mod.kin J (looks_kn I' (show L2.RelV (.ref ys[i]) (.ref ys[i]) from rfl) hy _) hn hm.at_ hm.fn ?_)
        refine wpAny_mono (wpAny_call (runB (us := [.ref xs[i], .ref ys[i]]) (vs := [.ref xs[i], .ref ys[i]]) F hr1.in1 I'.env0.in1 passL I' (.cons rfl (.cons rfl .nil)) hsp)) (fun w s' z => ?_) fun _ _ x => x
        obtain ⟨z', H2, I2, rz, ez, s2⟩ := z
        subst ez
        cases (show w = Value.bool true from rz)
        exact wpAny_truthy_bool ⟨rfl, H2, I2, s2⟩
  · obtain ⟨H', I', s1⟩ := hs
    exact ⟨.bl true, H', I', rfl, q H' s1⟩
end
section
variable {X : Cx} {k j : Nat} {f C : Addr} {sp : Sp} {E : XK} {x m : Str} {o : Expr} {ta : TE} {p pos apos : Pos}
/-- o.m(), m's def has self and a starred parameter -/
theorem pe_mtV0 {pl : Sem Bool} (he : PE X o ta) (c : Cls X.K C) (hm : Meth X.K C m f) (F : FnV X.prog X.w X.K X.mg X.base k f 1 sp) (hr : Rm j X.A) (hx : Passes (L2.CX X.prog X.w) X E) (hk : k ≤ j := by decide)
    (ht : eval (.Call (.Attribute o m apos) [] [] pos) X.env = (do
      let ov ← eval o X.env
      standAt apos.atName
      let (f, first) ← holding [ov] (getMethod ov m pl)
      callWith pos f first (backTo pos (starEach [] X.env)) (backToKw pos (keywordEach [] X.env))) := by rfl) :
    PE X (.Call (.Attribute o m apos) [] [] pos) (tMeth C m (fun vs H Q E => ∃ x, vs = [x] ∧ ∀ p, H p = none → sp [x, .ref p] (upd H p (.tup [])) Q E) [] E ta tNil) := by
  refine ⟨fun pins s σ H Q I h => PySem.W.methodCall_KW (pl := pl) (thn (he.run pins s σ H _ I h) fun u s1 ⟨x, H1, I1, rx, a, dx, fs, ex, ea, l, q⟩ => ?_) ht⟩
  subst ex
  cases (show u = Value.ref a from rx)
  obtain ⟨x, e1, q3⟩ := q
  simp only [List.append_nil, List.cons.injEq, and_true] at e1
  subst e1
  have hf : H1 s1.heap.objs.size = none := I1.hok.fresh (Nat.le_refl _)
  have I3 : L2.Inv X pins σ (upd H1 s1.heap.objs.size (.tup [])) (pushT s1 []) := by
    refine I1.laid (t' := s1.toks) (fun b u e => Heap.get?_push_of_some _ e) (Nat.le_refl _) ?_
    exact ⟨Nat.zero_le _, [], .nil, ⟨_, Heap.get?_push_size _ rfl, rfl, _, rfl⟩⟩
  refine getmeth_ok I1 ea c hm l (PySem.W.callWith_K0 (first := [.ref a]) I1.kIn hm.kp (wpAny_call (F.run X.A X.stack s1 _ [.ref a] [] [.ref a] Q E _ (hr.mono hk) I3.env0 rfl (.cons rfl .nil) I1.kIn (Nat.zero_le _) (q3 _ hf) fun res s' hq => ?_)))
  match res, hq with
  | .error e, hq => exact hx pins σ _ _ e s' I3 hq
  | .ok (.ret u), hq => exact I3.after hq
end
/-- a comprehension over a list that takes none -/
theorem lc_none {K : Frag} {tl te : TE} {tt : TT} {σ : L2.St} {i : Nat} {H : Hp} {L : Addr} {xs : List V} {Q : VK} (hL : H L = some (.lst xs))
    (hl : ∀ Q', Q' (.ref L) H → tl σ H Q')
    (ht : ∀ x G Q', x ∈ xs → Same H G → (∀ G', Same G G' → Q' false G') → tt ((wipe σ [i]).set i (some x)) G Q')
    (hw : ∀ x, wipe ((wipe σ [i]).set i (some x)) [i] = wipe σ [i])
    (q : ∀ H' D, Same H H' → H D = none → H' D = some (.lst []) → Q (.ref D) H') : tLc (iList K tl) (gName i) tt te [i] σ H Q := by
  refine hl _ ⟨L, rfl, ⟨_, SqL.of hL⟩, fun D hD => ?_⟩
  refine lc_it (walk_list (xs := xs)) (fun j H2 => H2 D = some (.lst []) ∧ Same H H2) ?_ (fun j H2 _ h => SqL.of (h.2 _ _ hL)) ?_ ?_
  · exact ⟨upd_same, Same.upd (Same.refl _) hD⟩
  · rintro j y H2 H3 hj ⟨hb, s⟩ ⟨rfl, hy⟩
    refine ⟨hw _, ht y H3 _ (List.mem_of_getElem? hy) s fun G' sG => ?_⟩
    rw [if_neg (by decide)]
    exact ⟨sG _ _ hb, s.trans sG⟩
  · rintro H2 ⟨hb, s⟩
    exact q H2 D s hD hb
section
variable {X : Cx} {k j : Nat} {f C : Addr} {sp : Sp} {E : XK}
/-- != of what is None or an instance of C -/
def rNeMO (K : Frag) (C : Addr) (sp : Sp) (E : XK) : R2 := fun x y H Q => (x = .non ∧ y = .non ∧ Q (.bl false) H) ∨ rNeO K C sp E x y H Q
theorem op_neMO (hm : Meth X.K C "__eq__" f) (hne : NoNe X.K C) (F : FnB X.prog X.w X.K X.mg X.base k f sp) (hr : Rm j X.A) (hx : Passes (L2.CX X.prog X.w) X E) (hk : k + 1 ≤ j := by decide) : OpR X (compareOp .NotEq) (rNeMO X.K C sp E) := by
  intro pins s σ H x y v u Q I rx ry h
  rcases h with ⟨rfl, rfl, q⟩ | h
  · exact op_ne pins s σ H _ _ v u Q I rx ry ⟨rfl, by rw [decide_eq_true rfl]; exact q⟩
  · exact op_neO hm hne F hr hx hk pins s σ H x y v u Q I rx ry h
end
end Ah
namespace L2
open PySem PySem.Spec PyProof.Rows
section
variable {X : Cx}
/-- x = {k: v for ..}, keys tuples -/
theorem ps_setDcT {i : Nat} {y : Str} {py : Pos} {kx vx tg iter : Expr} {ifs : List Expr} {scope : Scope} {own : List (Str × Nat)} {pos spos : Pos} {wi : TI} {g : TG} {tt : TT} {tk tv : TE} (hu : X.A.units + 1 < cLine) (hc : X.calm = true) (hN : X.N.Nodup) (hy : X.N[i]? = some y) (hyl : X.env.scope.names.lookup y = some .local)
    (hsw : swapsWith (.DictComp kx vx [⟨tg, iter, ifs, 0⟩] scope pos) (some (.Name y py)) spos.line X.env = pure true) (hi : PI X tg iter wi) (ok : BlkOk X.N X.env.scope scope own)
    (hg : ∀ (s : Shared) (H : Hp) (C : Addr) (cl : List (Str × Addr)) (fp : List Addr), PG (X.blk s H scope (compEnvC scope cl C X.env) fp) tg g) (ht : ∀ (s : Shared) (H : Hp) (C : Addr) (cl : List (Str × Addr)) (fp : List Addr), PTs (X.blk s H scope (compEnvC scope cl C X.env) fp) ifs tt)
    (hk : ∀ (s : Shared) (H : Hp) (C : Addr) (cl : List (Str × Addr)) (fp : List Addr), PE (X.blk s H scope (compEnvC scope cl C X.env) fp) kx tk)
    (he : ∀ (s : Shared) (H : Hp) (C : Addr) (cl : List (Str × Addr)) (fp : List Addr), PE (X.blk s H scope (compEnvC scope cl C X.env) fp) vx tv) (hs : ∀ x, foldedSetIterable iter X.env x = pure x := by intro _; rfl) :
    PS X (.Assign [.Name y py] (.DictComp kx vx [⟨tg, iter, ifs, 0⟩] scope pos) spos) (tAsg (tDcT wi g tt tk tv (own.map (·.2))) (gName i)) := by
  refine ⟨fun pins s σ H D I h => ?_⟩
  rw [exec_Assign_Name_used _ _ _ _ hsw]
  refine wpAny_bind (wpAny_standAt (wpAny_bind ?_))
  show wpAny _ X.A (do let _ ← comprehension (.DictComp kx vx [⟨tg, iter, ifs, 0⟩] scope pos) scope X.env (firstIterPos [⟨tg, iter, ifs, 0⟩] pos) newDict false (eval iter X.env) (some (assign (.Name y py) X.env))) _ _ s
  have h : tDcT wi g tt tk tv (own.map (·.2)) σ H (fun x H1 => gName i x σ H1 D.nx) := h
  refine wpAny_bind (thn (dcT_core (Qf := fun _ s' => SP X pins D .next s') hu hc hN I hi ok hg ht hk he hs h fun L C s' m H' I' q hn f => ?_) fun _ s' hq => wpAny_pure (wpAny_pure hq))
  show wpAny _ _ (assign (.Name y py) X.env (.ref L)) _ _ _
  refine wpAny_assign_Name (store_ok2 (v := V.ref L) I' hN hy (.inl hyl) rfl (fun s2 I2 ⟨a, sb, ha⟩ => ?_) (.inr hyl))
  obtain ⟨f0, f1, f2, f3, f4, f5⟩ := f
  have haC : C ≠ a := by
    rcases ha with z | z
    · rw [z]; exact f1
    · exact fun e => f4 y a z e.symm
  refine ⟨m, hn.sameBut sb haC, fun h3 sb3 => ?_⟩
  exact ⟨_, H', I2.turned (t' := s2.toks) (fun b o hb e => (sb3.2 b hb).trans e) f0 f1 f3 f4 f5, q⟩
theorem sw_trueD {kx vx : Expr} {gs : List Comprehension} {scope : Scope} {pos py : Pos} {y : Str} {l : Nat} {env : Env} (hk : env.scope.kind = .function) (hy : env.scope.names.lookup y = some .local) (hl : (py.line == pos.line) = true)
    (ha : (scope.names.any fun (n, k) => n == y && (k == .local || k == .cell)) = false) : swapsWith (.DictComp kx vx gs scope pos) (some (.Name y py)) l env = pure true := by
  have ky : env.kindOf y = some .local := hy
  have hb : env.blockKind = .function := by unfold Env.blockKind; rw [hk]; rfl
  unfold swapsWith
  simp only [hb, ky, ha, Expr.pos, hl]
  rfl
end
end L2

/-! dict comprehensions with two clauses, keys tuples -/
namespace L2
open PySem PySem.Spec PyProof.Rows
theorem compTurnD2_out (kx vx t0 i0 t1 i1 : Expr) (ifs0 ifs1 : List Expr) (scope : Scope) (pos : Pos) (it acc : Value) (env : Env) :
    compTurn (.DictComp kx vx [⟨t0, i0, ifs0, 0⟩, ⟨t1, i1, ifs1, 0⟩] scope pos) 0 it acc env = (do
      standAt i0.pos
      match ← pyNext it with
      | none => pure (.done .next)
      | some v =>
        letOwnedTupleGo t0 it v
        assign t0 env v
        let mut ok := true
        for c in ifs0 do
          if ok then ok ← isTrue c env (eval c env)
        if ok then
          let x ← eval i1 env
          standAt i1.pos
          let x ← foldedSetIterable i1 env x
          let _ ← runOwn (.compStart (.DictComp kx vx [⟨t0, i0, ifs0, 0⟩, ⟨t1, i1, ifs1, 0⟩] scope pos) 1 (← holding [x] (pyIter x)) acc env) env
        again (.compLoop (.DictComp kx vx [⟨t0, i0, ifs0, 0⟩, ⟨t1, i1, ifs1, 0⟩] scope pos) 0 it acc env)) := by rfl
theorem compTurnD2_in (kx vx t0 i0 t1 i1 : Expr) (ifs0 ifs1 : List Expr) (scope : Scope) (pos : Pos) (it : Value) (D : Addr) (env : Env) :
    compTurn (.DictComp kx vx [⟨t0, i0, ifs0, 0⟩, ⟨t1, i1, ifs1, 0⟩] scope pos) 1 it (.ref D) env = (do
      standAt i1.pos
      match ← pyNext it with
      | none => pure (.done .next)
      | some v =>
        letOwnedTupleGo t1 it v
        assign t1 env v
        let mut ok := true
        for c in ifs1 do
          if ok then ok ← isTrue c env (eval c env)
        if ok then
          (do
            let kv ← eval kx env
            let vv ← holding [kv] (eval vx env)
            standAt { kx.pos with endLine := vx.pos.endLine, endCol := vx.pos.endCol }
            holding [kv, vv] (dictSet D kv vv))
        again (.compLoop (.DictComp kx vx [⟨t0, i0, ifs0, 0⟩, ⟨t1, i1, ifs1, 0⟩] scope pos) 1 it (.ref D) env)) := by rfl

section
variable {prog : Program} {w : World} {A : Around} {R : Result → Shared → Prop} {s : Shared} {kx vx t0 i0 t1 i1 : Expr} {ifs0 ifs1 : List Expr} {scope : Scope} {pos : Pos} {it acc : Value} {env : Env}
/-- the loop of the first clause -/
theorem compLoopD2_out (hs : ∀ x, foldedSetIterable i1 env x = pure x) (I : Nat → Shared → Prop)
    (turn : ∀ n s, I n s → wpAny (model prog w) A (pyNext it) (fun r s₁ => match r with
      | none => R (.ok .next) s₁
      | some v => wpAny (model prog w) A (letOwnedTupleGo t0 it v) (fun _ s₁' => wpAny (model prog w) A (assign t0 env v) (fun _ s₂ =>
          wpAny (model prog w) A (forIn ifs0 true fun c r => if r = true then do let ok ← isTrue c env (eval c env); pure (ForInStep.yield ok) else pure (ForInStep.yield r)) (fun ok s₃ =>
            if ok = true then wpAny (model prog w) A (eval i1 env) (fun x s₄ => wpAny (model prog w) A (pyIter x) (fun it1 s₅ =>
              codeAny (model prog w) A (.compStart (.DictComp kx vx [⟨t0, i0, ifs0, 0⟩, ⟨t1, i1, ifs1, 0⟩] scope pos) 1 it1 acc env) (fun r s' => match r with
                | .ok _ => ∃ m, m < n ∧ I m s'
                | .error _ => False) s₅) (notedBy (model prog w) A env fun e s' => R (.error e) s') s₄) (notedBy (model prog w) A env fun e s' => R (.error e) s') s₃
            else ∃ m, m < n ∧ I m s₃) (notedBy (model prog w) A env fun e s' => R (.error e) s') s₂) (notedBy (model prog w) A env fun e s' => R (.error e) s') s₁') (notedBy (model prog w) A env fun e s' => R (.error e) s') s₁) (notedBy (model prog w) A env fun e s' => R (.error e) s') s)
    (n : Nat) (h : I n s) :
    codeAny (model prog w) A (.compLoop (.DictComp kx vx [⟨t0, i0, ifs0, 0⟩, ⟨t1, i1, ifs1, 0⟩] scope pos) 0 it acc env) R s := by
  refine codeAny_loop rfl I (fun n s hI => ?_) n h
  show wpAny _ A ((compTurn (.DictComp kx vx [⟨t0, i0, ifs0, 0⟩, ⟨t1, i1, ifs1, 0⟩] scope pos) 0 it acc env).onRaise (fun x => do noteFrame x env; theTreesLotGoes x)) _ _ s
  refine wpAny_noted ?_
  rw [compTurnD2_out]
  refine wpAny_bind (wpAny_standAt (wpAny_bind (wpAny_mono (turn n s hI) (fun r s₁ h₁ => ?_) fun _ _ h' => h')))
  cases r with
  | none => exact wpAny_pure h₁
  | some v =>
    refine wpAny_bind (wpAny_mono h₁ (fun _ s₁' h₁' => ?_) fun _ _ h' => h')
    refine wpAny_bind (wpAny_mono h₁' (fun _ s₂ h₂ => wpAny_bind (wpAny_mono h₂ (fun ok s₃ h₃ => ?_) fun _ _ h' => h')) fun _ _ h' => h')
    cases ok with
    | false => exact wpAny_pure ⟨rfl, h₃⟩
    | true =>
      refine wpAny_bind (wpAny_mono h₃ (fun x s₄ h₄ => ?_) fun _ _ h' => h')
      refine wpAny_bind (wpAny_standAt (wpAny_bind (wpAny_of_eq (hs x) (wpAny_bind (wpAny_holding (wpAny_mono h₄ (fun it1 s₅ h₅ => ?_) fun _ _ h' => h'))))))
      refine wpAny_bind (wpAny_runOwn ?_)
      rw [Around.mark_none]
      refine codeAny_mono h₅ fun r s' hr => ?_
      cases r with
      | ok f =>
        first
          | exact wpAny_pure ⟨rfl, hr⟩
          | exact wpAny_bind (wpAny_pure (wpAny_pure ⟨rfl, hr⟩))
      | error e => exact hr.elim
/-- the loop of the second -/
theorem compLoopD2_in {D : Addr} (I : Nat → Shared → Prop)
    (turn : ∀ n s, I n s → wpAny (model prog w) A (pyNext it) (fun r s₁ => match r with
      | none => R (.ok .next) s₁
      | some v => wpAny (model prog w) A (letOwnedTupleGo t1 it v) (fun _ s₁' => wpAny (model prog w) A (assign t1 env v) (fun _ s₂ =>
          wpAny (model prog w) A (forIn ifs1 true fun c r => if r = true then do let ok ← isTrue c env (eval c env); pure (ForInStep.yield ok) else pure (ForInStep.yield r)) (fun ok s₃ =>
            if ok = true then wpAny (model prog w) A (eval kx env) (fun kv s₄ => wpAny (model prog w) A (eval vx env) (fun vv s₅ =>
              wpAny (model prog w) A (dictSet D kv vv) (fun _ s₆ => ∃ m, m < n ∧ I m s₆) (notedBy (model prog w) A env fun e s' => R (.error e) s') s₅) (notedBy (model prog w) A env fun e s' => R (.error e) s') s₄) (notedBy (model prog w) A env fun e s' => R (.error e) s') s₃
            else ∃ m, m < n ∧ I m s₃) (notedBy (model prog w) A env fun e s' => R (.error e) s') s₂) (notedBy (model prog w) A env fun e s' => R (.error e) s') s₁') (notedBy (model prog w) A env fun e s' => R (.error e) s') s₁) (notedBy (model prog w) A env fun e s' => R (.error e) s') s)
    (n : Nat) (h : I n s) :
    codeAny (model prog w) A (.compLoop (.DictComp kx vx [⟨t0, i0, ifs0, 0⟩, ⟨t1, i1, ifs1, 0⟩] scope pos) 1 it (.ref D) env) R s := by
  refine codeAny_loop rfl I (fun n s hI => ?_) n h
  show wpAny _ A ((compTurn (.DictComp kx vx [⟨t0, i0, ifs0, 0⟩, ⟨t1, i1, ifs1, 0⟩] scope pos) 1 it (.ref D) env).onRaise (fun x => do noteFrame x env; theTreesLotGoes x)) _ _ s
  refine wpAny_noted ?_
  rw [compTurnD2_in]
  refine wpAny_bind (wpAny_standAt (wpAny_bind (wpAny_mono (turn n s hI) (fun r s₁ h₁ => ?_) fun _ _ h' => h')))
  cases r with
  | none => exact wpAny_pure h₁
  | some v =>
    refine wpAny_bind (wpAny_mono h₁ (fun _ s₁' h₁' => ?_) fun _ _ h' => h')
    refine wpAny_bind (wpAny_mono h₁' (fun _ s₂ h₂ => wpAny_bind (wpAny_mono h₂ (fun ok s₃ h₃ => ?_) fun _ _ h' => h')) fun _ _ h' => h')
    cases ok with
    | false => exact wpAny_pure ⟨rfl, h₃⟩
    | true =>
      exact wpAny_bind (wpAny_bind (wpAny_mono h₃ (fun kv s₄ h₄ => wpAny_bind (wpAny_holding (wpAny_mono h₄ (fun vv s₅ h₅ => wpAny_bind (wpAny_standAt (wpAny_holding (wpAny_mono h₅ (fun _ s₆ h₆ => wpAny_pure ⟨rfl, h₆⟩) fun _ _ h' => h')))) fun _ _ h' => h'))) fun _ _ h' => h'))
/-- the second clause's start -/
theorem compStartD1_ok (h0 : codeAny (model prog w) A (.compLoop (.DictComp kx vx [⟨t0, i0, ifs0, 0⟩, ⟨t1, i1, ifs1, 0⟩] scope pos) 1 it acc env) R s)
    (h : wpAny (model prog w) A (pyIter it) (fun it' s' => codeAny (model prog w) A (.compLoop (.DictComp kx vx [⟨t0, i0, ifs0, 0⟩, ⟨t1, i1, ifs1, 0⟩] scope pos) 1 it' acc env) R s')
      (notedBy (model prog w) A env fun x s' => R (.error x) s') s) :
    codeAny (model prog w) A (.compStart (.DictComp kx vx [⟨t0, i0, ifs0, 0⟩, ⟨t1, i1, ifs1, 0⟩] scope pos) 1 it acc env) R s := by
  refine codeAny_of_tree ?_
  show wpAny _ _ ((compStart (.DictComp kx vx [⟨t0, i0, ifs0, 0⟩, ⟨t1, i1, ifs1, 0⟩] scope pos) 1 it acc env).onRaise (fun x => do noteFrame x env; standAt theWindowsPlace)) _ _ s
  refine wpAny_notedAt ?_
  unfold compStart
  show wpAny _ _ (ask >>= _) _ _ s
  refine wpAny_bind (wpAny_askSetting (wpAny_ite ?_))
  split
  · first
      | exact wpAny_bind (wpAny_pure (wpAny_pure (And.intro rfl h0)))
      | exact wpAny_pure (And.intro rfl h0)
  · first
      | exact wpAny_bind (wpAny_rule (wpAny_bind (wpAny_standAt (wpAny_bind (wpAny_mono h (fun it' s' h' => wpAny_pure (And.intro rfl h')) fun _ _ x => x)))))
      | (refine wpAny_bind (wpAny_rule ?_); show wpAny _ _ (standAt i1.pos >>= _) _ _ s; exact wpAny_bind (wpAny_standAt (wpAny_bind (wpAny_mono h (fun it' s' h' => wpAny_pure (And.intro rfl h')) fun _ _ x => x))))
end

section
variable {X : Cx}
/-- {kx: vx for tg in iter if .. for tg1 in iter1 if ..}, keys tuples: behind the first clause's store and tests the second source's own loop, from which Nx is reached. vs: the block's names; vs1: those of the second target -/
def tDc2 (wi : TI) (g : TG) (tt : TT) (wi1 : TI) (g1 : TG) (tt1 : TT) (tk tv : TE) (vs vs1 : List Nat) : TE := fun σ H Q => wi σ H fun J H1 => ∀ D, H1 D = none → ∃ W : Nat → Nat → Hp → Prop, (∃ m, W 0 m (upd H1 D (.dT []))) ∧ ∀ i m H, W i m H →
  (J.stop i H ∧ Q (.ref D) H) ∨ (J.go i H ∧ ∃ Nx : Hp → Prop, (∀ H', Nx H' → ∃ m', m' < m ∧ W (i + 1) m' H') ∧ ∀ x H', J.yld i H x H' → g x (wipe σ vs) H' fun σ2 H2 => wipe σ2 vs = wipe σ vs ∧ tt σ2 H2 fun b H3 =>
    if b = true then wi1 σ2 H3 fun J1 H4 => ∃ W1 : Nat → Nat → Hp → Prop, (∃ m, W1 0 m H4) ∧ ∀ j k H, W1 j k H →
      (J1.stop j H ∧ Nx H) ∨ (J1.go j H ∧ ∃ Nx1 : Hp → Prop, (∀ H', Nx1 H' → ∃ k', k' < k ∧ W1 (j + 1) k' H') ∧ ∀ x H', J1.yld j H x H' → g1 x (wipe σ2 vs1) H' fun σ3 H5 => wipe σ3 vs1 = wipe σ2 vs1 ∧ tt1 σ3 H5 fun b H6 =>
        if b = true then tk σ3 H6 fun y H7 => tv σ3 H7 fun z H8 => ∃ kvs k bq, y = .ref bq ∧ H8 bq = some (.tup (List.map kV k)) ∧ H8 D = some (.dT kvs) ∧ kvs.length < sizeLine ∧ Nx1 (upd H8 D (.dT (putK kvs k z))) else Nx1 H6)
    else Nx H3)
theorem dc2_core {pins : List (Addr × Obj)} {s : Shared} {σ : St} {H : Hp} {Q : VK} {kx vx tg iter tg1 iter1 : Expr} {ifs ifs1 : List Expr} {scope : Scope} {own : List (Str × Nat)} {vs1 : List Nat} {pos pos' : Pos} {wi wi1 : TI} {g g1 : TG} {tt tt1 : TT} {tk tv : TE} {use : Option (Value → Sem Unit)} {Qf : Value → Shared → Prop}
    (hu : X.A.units + 1 < cLine) (hc : X.calm = true) (hN : X.N.Nodup) (I : Inv X pins σ H s) (hi : PI X tg iter wi) (ok : BlkOk X.N X.env.scope scope own) (hv : ∀ i ∈ vs1, i ∈ own.map (·.2))
    (hg : ∀ (s : Shared) (H : Hp) (C : Addr) (cl : List (Str × Addr)) (fp : List Addr), PG (X.blk s H scope (compEnvC scope cl C X.env) fp) tg g) (ht : ∀ (s : Shared) (H : Hp) (C : Addr) (cl : List (Str × Addr)) (fp : List Addr), PTs (X.blk s H scope (compEnvC scope cl C X.env) fp) ifs tt)
    (hk : ∀ (s : Shared) (H : Hp) (C : Addr) (cl : List (Str × Addr)) (fp : List Addr), PE (X.blk s H scope (compEnvC scope cl C X.env) fp) kx tk)
    (he : ∀ (s : Shared) (H : Hp) (C : Addr) (cl : List (Str × Addr)) (fp : List Addr), PE (X.blk s H scope (compEnvC scope cl C X.env) fp) vx tv) (hs : ∀ x, foldedSetIterable iter X.env x = pure x)
    (hi1 : ∀ (s : Shared) (H : Hp) (C : Addr) (cl : List (Str × Addr)) (fp : List Addr), PI (X.blk s H scope (compEnvC scope cl C X.env) fp) tg1 iter1 wi1)
    (hg1 : ∀ (s : Shared) (H : Hp) (C : Addr) (cl : List (Str × Addr)) (fp : List Addr), PG (X.blk s H scope (compEnvC scope cl C X.env) fp) tg1 g1)
    (ht1 : ∀ (s : Shared) (H : Hp) (C : Addr) (cl : List (Str × Addr)) (fp : List Addr), PTs (X.blk s H scope (compEnvC scope cl C X.env) fp) ifs1 tt1)
    (hs1 : ∀ env x, foldedSetIterable iter1 env x = pure x)
    (h : tDc2 wi g tt wi1 g1 tt1 tk tv (own.map (·.2)) vs1 σ H Q)
    (hRR : ∀ D C s' m H', Inv X pins σ H' s' → Q (.ref D) H' → s'.heap.Ns C m → FpOk X pins H' C → compPost (model X.prog X.w) X.A X.xe use Qf (.ref D) C (.ok .next) s') :
    wpAny (model X.prog X.w) X.A (comprehension (.DictComp kx vx [⟨tg, iter, ifs, 0⟩, ⟨tg1, iter1, ifs1, 0⟩] scope pos) scope X.env pos' newDict false (eval iter X.env) use) Qf X.xe s := by
  have hfree : ∀ y ∈ scope.names, y.2 = .free → ∃ c, X.env.cells.lookup y.1 = some c := fun y hy e => by
    rcases ok.free y hy e with k | k
    · exact I.ok.has _ (.inl k)
    · exact I.ok.has _ (.inr k)
  refine wpAny_comprehension_free (use := use) rfl hs (closure_ok hfree) ok.kind (fun y hy e => by rw [ok.uniq y hy, e])
    (thn (hi.run pins s σ H _ I h) fun xv s1 hx => thn hx fun itv s2 h2 => ?_)
  obtain ⟨it, fp, tn, J, H2, e, I2, T, st2, f2, q⟩ := h2
  subst e
  refine wpAny_newObj_type (newEnv_comp ?_)
  generalize hD : s2.heap.objs.size = D
  have hDn : H2 D = none := I2.hok.fresh (Nat.le_of_eq hD)
  obtain ⟨W, ⟨m0, w0⟩, turn⟩ := q D hDn
  -- the new list
  generalize hs3 : ({ s2 with heap := s2.heap.push { cls := .type "dict", data := .dict #[] } } : Shared) = s3
  have I3 : Inv X pins σ (upd H2 D (.dT [])) s3 := by
    rw [← hs3]
    refine I2.laid (t' := s2.toks) (fun b o e => Heap.get?_push_of_some _ e) (Nat.le_of_eq hD) ?_
    rw [← hD]
    exact dt_empty s2.heap I2.big
  have h3 : s3.heap = s2.heap.push { cls := .type "dict", data := .dict #[] } := by rw [← hs3]
  have sz : ∀ b ∈ fp, b < s2.heap.objs.size := fun b hb => by
    obtain ⟨o, e, _⟩ := T.obj _ _ st2 b hb
    exact Heap.lt_size e
  have f3 : ∀ b ∈ fp, FpOk X pins (upd H2 D (.dT [])) b ∧ b < s3.heap.objs.size := fun b hb => by
    have hlt := sz b hb
    refine ⟨⟨?_, (f2 b hb).2⟩, by rw [h3, Heap.size_push]; exact Nat.lt_succ_of_lt hlt⟩
    rw [upd_ne (by rw [← hD]; exact Nat.ne_of_lt hlt)]
    exact (f2 b hb).1
  have st3 : tn 0 s3.heap := T.keep _ _ _ st2 fun b _ o e => by rw [h3]; exact Heap.get?_push_of_some _ e
  have I4 := block_start I3 ok hN f3
  have pg := hg s3 (upd H2 D (.dT [])) s3.heap.objs.size (cellsFrom (s3.heap.objs.size + 1) scope.names (cloFrom X.env.cells scope.names [])) fp
  have pt := ht s3 (upd H2 D (.dT [])) s3.heap.objs.size (cellsFrom (s3.heap.objs.size + 1) scope.names (cloFrom X.env.cells scope.names [])) fp
  have pk := hk s3 (upd H2 D (.dT [])) s3.heap.objs.size (cellsFrom (s3.heap.objs.size + 1) scope.names (cloFrom X.env.cells scope.names [])) fp
  have pe := he s3 (upd H2 D (.dT [])) s3.heap.objs.size (cellsFrom (s3.heap.objs.size + 1) scope.names (cloFrom X.env.cells scope.names [])) fp
  have pi1 := hi1 s3 (upd H2 D (.dT [])) s3.heap.objs.size (cellsFrom (s3.heap.objs.size + 1) scope.names (cloFrom X.env.cells scope.names [])) fp
  have pg1 := hg1 s3 (upd H2 D (.dT [])) s3.heap.objs.size (cellsFrom (s3.heap.objs.size + 1) scope.names (cloFrom X.env.cells scope.names [])) fp
  have pt1 := ht1 s3 (upd H2 D (.dT [])) s3.heap.objs.size (cellsFrom (s3.heap.objs.size + 1) scope.names (cloFrom X.env.cells scope.names [])) fp
  show codeAny _ _ (.compStart (.DictComp kx vx [⟨tg, iter, ifs, 0⟩, ⟨tg1, iter1, ifs1, 0⟩] scope pos) 0 (.ref it) (.ref D) (compEnvC scope (cellsFrom (s3.heap.objs.size + 1) scope.names (cloFrom X.env.cells scope.names [])) s3.heap.objs.size X.env)) (compPost (model X.prog X.w) X.A X.xe use Qf (.ref D) s3.heap.objs.size) { s3 with heap := pushCells (s3.heap.push { cls := .type "dict", data := .dict #[] }) scope.names }
  have nfp : ∀ b ∈ fp, (upd H2 D (.dT [])) b = none := fun b hb => (f3 b hb).1.1
  generalize hce : compEnvC scope (cellsFrom (s3.heap.objs.size + 1) scope.names (cloFrom X.env.cells scope.names [])) s3.heap.objs.size X.env = ce at I4 pg pt pk pe pi1 pg1 pt1 ⊢
  have cL : ce.locals = s3.heap.objs.size := by subst hce; rfl
  generalize hH3 : upd H2 D (.dT []) = H3 at I3 I4 pg pt pk pe pi1 pg1 pt1 w0 nfp f3
  generalize hs4 : ({ s3 with heap := pushCells (s3.heap.push { cls := .type "dict", data := .dict #[] }) scope.names } : Shared) = s4 at I4 ⊢
  have st4 : tn 0 s4.heap := T.keep _ _ _ st3 fun b _ o e => by rw [← hs4]; exact pushCells_keeps _ _ _ _ (Heap.get?_push_of_some _ e)
  have stat : ∀ {σ' : St} {H' : Hp} {s' : Shared}, Inv (X.blk s3 H3 scope ce fp) [] σ' H' s' → (∀ b ∈ fp, H' b = none) → ∀ b ∈ fp, FpOk (X.blk s3 H3 scope ce fp) [] H' b := fun {σ' H' s'} I' hn b hb =>
    ⟨hn b hb, (I'.ok.exf b hb).1, I'.ok.exfs b hb, .inl hb, fun x c e => (I'.ok.exf b hb).2 x c e, fun p hp => absurd (show p ∈ ([] : List (Addr × Obj)) ++ [] from hp) (by simp)⟩
  have loop : codeAny (model X.prog X.w) X.A (.compLoop (.DictComp kx vx [⟨tg, iter, ifs, 0⟩, ⟨tg1, iter1, ifs1, 0⟩] scope pos) 0 (.ref it) (.ref D) ce) (compPost (model X.prog X.w) X.A X.xe use Qf (.ref D) s3.heap.objs.size) s4 := by
    refine compLoopD2_out (hs1 ce) (fun n s' => ∃ i H', Inv (X.blk s3 H3 scope ce fp) [] (wipe σ (own.map (·.2))) H' s' ∧ tn i s'.heap ∧ (∀ b ∈ fp, H' b = none) ∧ W i n H') ?_ m0 ⟨0, H3, I4, st4, nfp, w0⟩
    rintro n s5 ⟨i, H5, I5, st5, n5, w5⟩
    rcases turn i n H5 w5 with ⟨stop, qq⟩ | ⟨go, Nx, hNx, step⟩
    · have td := T.done (X.blk s3 H3 scope ce fp) rfl rfl rfl hc i [] s5 _ H5 (fun _ _ => False) I5 (stat I5 n5) st5 stop
      refine thnF td fun r s6 ⟨hr, I6⟩ => ?_
      subst hr
      -- back in the def's context
      have I7 : Inv X pins σ H5 s6 := I3.call' (ch := fp) I6.os I6.base I6.hok I6.bare fun b hb => ⟨(f3 b hb).1.2.2.2.1, (f3 b hb).1.2.1, (f3 b hb).1.2.2.2.2.1, (f3 b hb).1.2.2.2.2.2⟩
      have nC : H5 s3.heap.objs.size = none := by
        have z : H5 ce.locals = none := I6.free
        rw [cL] at z
        exact z
      obtain ⟨m, hn, _⟩ := I6.loc
      have hn : s6.heap.Ns ce.locals m := hn
      rw [cL] at hn
      exact hRR D s3.heap.objs.size s6 m H5 I7 qq hn (I3.fpOk (Nat.le_refl _) nC)
    · have ti := T.item (X.blk s3 H3 scope ce fp) rfl rfl rfl hc i [] s5 _ H5 (fun _ _ => False) I5 (stat I5 n5) st5 go
      refine thnF ti fun r s6 ⟨u, hr, h6⟩ => ?_
      subst hr
      refine thnF h6 fun _ s7 ⟨x, H7, I7, r7, y7, st7, n7⟩ => ?_
      have I7' := I7.pinned (stat I7 n7) (T.obj _ _ st7)
      refine thnF (pg.run _ s7 _ H7 x u _ I7' r7 (step x H7 y7)) fun _ s8 ⟨σ8, H8, I8, hw8, q8⟩ => ?_
      refine thnF (pt.run _ s8 σ8 H8 _ I8 q8) fun b s9 ⟨H9, I9, q9⟩ => ?_
      -- the turn's end, from any slots that know what the block knew at its start
      have fin : ∀ {σ9 : St} {s' : Shared} {H' : Hp}, Inv (X.blk s3 H3 scope ce fp) ([] ++ pinsAt fp s7.heap) σ9 H' s' → (wipe σ (own.map (·.2))).length = σ9.length → (∀ (j : Nat) v, (wipe σ (own.map (·.2)))[j]? = some (some v) → σ9[j]? = some (some v)) → Nx H' →
          ∃ m, m < n ∧ ∃ i H', Inv (X.blk s3 H3 scope ce fp) [] (wipe σ (own.map (·.2))) H' s' ∧ tn i s'.heap ∧ (∀ b ∈ fp, H' b = none) ∧ W i m H' := fun {σ9 s' H'} I' hl hk nx => by
        obtain ⟨m', hm, w'⟩ := hNx H' nx
        have pin' : ∀ b ∈ fp, ∀ o, s7.heap.get? b = some o → s'.heap.get? b = some o ∧ H' b = none := fun b hb o e =>
          let z := I'.pin (b, o) (List.mem_append_right _ (List.mem_append_right _ (mem_pinsAt hb e)))
          ⟨z.1, z.2.1⟩
        refine ⟨m', hm, i + 1, H', (I'.unpinned (pins := [])).weak hl hk, T.keep _ _ _ st7 fun b hb o e => (pin' b hb o e).1, fun b hb => ?_, w'⟩
        obtain ⟨o, e, _⟩ := T.obj _ _ st7 b hb
        exact (pin' b hb o e).2
      have hl8 : (wipe σ (own.map (·.2))).length = σ8.length := by rw [← hw8, wipe_length]
      have hk8 : ∀ (j : Nat) v, (wipe σ (own.map (·.2)))[j]? = some (some v) → σ8[j]? = some (some v) := fun j v e => by
        rw [← hw8] at e
        exact (wipe_some e).1
      have hk9 : ∀ (j : Nat) v, (wipe σ (own.map (·.2)))[j]? = some (some v) → (wipe σ8 vs1)[j]? = some (some v) := fun j v e => by
        rw [← hw8] at e
        obtain ⟨e1, e2⟩ := wipe_some e
        rw [wipe_out fun z => e2 (hv j z)]
        exact e1
      cases b with
      | false =>
        simp only [Bool.false_eq_true, if_false] at q9 ⊢
        exact fin I9 hl8 hk8 q9
      | true =>
        simp only [if_true] at q9 ⊢
        refine thnF (pi1.run _ s9 σ8 H9 _ I9 q9) fun xv s10 hx => thnF hx fun itv s11 h11 => ?_
        obtain ⟨it1, fp1, tn1, J1, H11, e1, I11, T1, st11, f11, W1, ⟨m1, w1⟩, turn1⟩ := h11
        subst e1
        -- the inner loop
        have stat1 : ∀ {H' : Hp}, (∀ b ∈ fp1, H' b = none) → ∀ b ∈ fp1, FpOk (X.blk s3 H3 scope ce fp) ([] ++ pinsAt fp s7.heap) H' b := fun hn b hb => ⟨hn b hb, (f11 b hb).2⟩
        have loop1 : codeAny (model X.prog X.w) X.A (.compLoop (.DictComp kx vx [⟨tg, iter, ifs, 0⟩, ⟨tg1, iter1, ifs1, 0⟩] scope pos) 1 (.ref it1) (.ref D) ce)
            (fun r s' => match r with
              | .ok _ => ∃ m, m < n ∧ ∃ i H', Inv (X.blk s3 H3 scope ce fp) [] (wipe σ (own.map (·.2))) H' s' ∧ tn i s'.heap ∧ (∀ b ∈ fp, H' b = none) ∧ W i m H'
              | .error _ => False) s11 := by
          refine compLoopD2_in (fun k s' => ∃ j H', Inv (X.blk s3 H3 scope ce fp) ([] ++ pinsAt fp s7.heap) (wipe σ8 vs1) H' s' ∧ tn1 j s'.heap ∧ (∀ b ∈ fp1, H' b = none) ∧ W1 j k H') ?_ m1 ⟨0, H11, I11.weak (wipe_length _ _) (fun j v e => (wipe_some e).1), st11, fun b hb => (f11 b hb).1, w1⟩
          rintro k s12 ⟨j, H12, I12, st12, n12, w12⟩
          rcases turn1 j k H12 w12 with ⟨stop1, nx1⟩ | ⟨go1, Nx1, hNx1, step1⟩
          · refine thnF (T1.done (X.blk s3 H3 scope ce fp) rfl rfl rfl hc j _ s12 (wipe σ8 vs1) H12 (fun _ _ => False) I12 (stat1 n12) st12 stop1) fun r s13 ⟨hr, I13⟩ => ?_
            subst hr
            exact fin I13 (hl8.trans (wipe_length σ8 vs1).symm) hk9 nx1
          · refine thnF (T1.item (X.blk s3 H3 scope ce fp) rfl rfl rfl hc j _ s12 (wipe σ8 vs1) H12 (fun _ _ => False) I12 (stat1 n12) st12 go1) fun r s13 ⟨u1, hr, h13⟩ => ?_
            subst hr
            refine thnF h13 fun _ s14 ⟨x1, H14, I14, r14, y14, st14, n14⟩ => ?_
            have I14' := I14.pinned (stat1 n14) (T1.obj _ _ st14)
            refine thnF (pg1.run _ s14 (wipe σ8 vs1) H14 x1 u1 _ I14' r14 (step1 x1 H14 y14)) fun _ s15 ⟨σ15, H15, I15, hw15, q15⟩ => ?_
            refine thnF (pt1.run _ s15 σ15 H15 _ I15 q15) fun b1 s16 ⟨H16, I16, q16⟩ => ?_
            have fin1 : ∀ {s' : Shared} {H' : Hp}, Inv (X.blk s3 H3 scope ce fp) (([] ++ pinsAt fp s7.heap) ++ pinsAt fp1 s14.heap) σ15 H' s' → Nx1 H' → ∃ m, m < k ∧ ∃ j H', Inv (X.blk s3 H3 scope ce fp) ([] ++ pinsAt fp s7.heap) (wipe σ8 vs1) H' s' ∧ tn1 j s'.heap ∧ (∀ b ∈ fp1, H' b = none) ∧ W1 j m H' := fun {s' H'} I' nx => by
              obtain ⟨m', hm, w'⟩ := hNx1 H' nx
              have pin' : ∀ b ∈ fp1, ∀ o, s14.heap.get? b = some o → s'.heap.get? b = some o ∧ H' b = none := fun b hb o e =>
                let z := I'.pin (b, o) (List.mem_append_right _ (List.mem_append_right _ (mem_pinsAt hb e)))
                ⟨z.1, z.2.1⟩
              refine ⟨m', hm, j + 1, H', I'.unpinned.weak (by rw [← hw15, wipe_length]) (fun j v e => by rw [← hw15] at e; exact (wipe_some e).1), T1.keep _ _ _ st14 fun b hb o e => (pin' b hb o e).1, fun b hb => ?_, w'⟩
              obtain ⟨o, e, _⟩ := T1.obj _ _ st14 b hb
              exact (pin' b hb o e).2
            cases b1 with
            | false =>
              simp only [Bool.false_eq_true, if_false] at q16 ⊢
              exact fin1 I16 q16
            | true =>
              simp only [if_true] at q16 ⊢
              refine thnF (pk.run _ s16 σ15 H16 _ I16 q16) fun z s17 ⟨yk, H17, I17, r17, q17⟩ => ?_
              refine thnF (pe.run _ s17 σ15 H17 _ I17 q17) fun z2 s18 ⟨yv, H18, I18, r18, kvs, k, bq, ek, hb18, hD18, hz18, nx⟩ => ?_
              subst ek
              exact d_dictSetT (X := X.blk s3 H3 scope ce fp) hu I18 hD18 hz18 hb18 r17 r18 fun s19 I19 => fin1 I19 nx
        exact compStartD1_ok loop1 (T1.self X.A 0 _ _ _ st11 loop1)
  exact codeAny_compStart_dict loop (T.self X.A 0 _ _ _ st4 loop)
/-- as a value -/
theorem pe_dc2 {kx vx tg iter tg1 iter1 : Expr} {ifs ifs1 : List Expr} {scope : Scope} {own : List (Str × Nat)} {vs1 : List Nat} {pos : Pos} {wi wi1 : TI} {g g1 : TG} {tt tt1 : TT} {tk tv : TE} (hu : X.A.units + 1 < cLine) (hc : X.calm = true) (hN : X.N.Nodup) (hi : PI X tg iter wi) (ok : BlkOk X.N X.env.scope scope own) (hv : ∀ i ∈ vs1, i ∈ own.map (·.2))
    (hg : ∀ (s : Shared) (H : Hp) (C : Addr) (cl : List (Str × Addr)) (fp : List Addr), PG (X.blk s H scope (compEnvC scope cl C X.env) fp) tg g) (ht : ∀ (s : Shared) (H : Hp) (C : Addr) (cl : List (Str × Addr)) (fp : List Addr), PTs (X.blk s H scope (compEnvC scope cl C X.env) fp) ifs tt)
    (hi1 : ∀ (s : Shared) (H : Hp) (C : Addr) (cl : List (Str × Addr)) (fp : List Addr), PI (X.blk s H scope (compEnvC scope cl C X.env) fp) tg1 iter1 wi1)
    (hg1 : ∀ (s : Shared) (H : Hp) (C : Addr) (cl : List (Str × Addr)) (fp : List Addr), PG (X.blk s H scope (compEnvC scope cl C X.env) fp) tg1 g1) (ht1 : ∀ (s : Shared) (H : Hp) (C : Addr) (cl : List (Str × Addr)) (fp : List Addr), PTs (X.blk s H scope (compEnvC scope cl C X.env) fp) ifs1 tt1)
    (hk : ∀ (s : Shared) (H : Hp) (C : Addr) (cl : List (Str × Addr)) (fp : List Addr), PE (X.blk s H scope (compEnvC scope cl C X.env) fp) kx tk)
    (he : ∀ (s : Shared) (H : Hp) (C : Addr) (cl : List (Str × Addr)) (fp : List Addr), PE (X.blk s H scope (compEnvC scope cl C X.env) fp) vx tv) (hs : ∀ x, foldedSetIterable iter X.env x = pure x := by intro _; rfl) (hs1 : ∀ env x, foldedSetIterable iter1 env x = pure x := by intro _ _; rfl) :
    PE X (.DictComp kx vx [⟨tg, iter, ifs, 0⟩, ⟨tg1, iter1, ifs1, 0⟩] scope pos) (tDc2 wi g tt wi1 g1 tt1 tk tv (own.map (·.2)) vs1) := by
  refine ⟨fun pins s σ H Q I h => ?_⟩
  rw [arm_eval_DictComp]
  refine dc2_core hu hc hN I hi ok hv hg ht hk he hs hi1 hg1 ht1 hs1 h fun D C s' m H' I' q hn f => ⟨m, hn, fun h'' sb => ?_⟩
  obtain ⟨f0, f1, f2, f3, f4, f5⟩ := f
  exact ⟨.ref D, H', I'.turned (t' := s'.toks) (fun b o hb e => (sb.2 b hb).trans e) f0 f1 f3 f4 f5, rfl, q⟩
theorem ps_setDc2 {i : Nat} {y : Str} {py : Pos} {kx vx tg iter tg1 iter1 : Expr} {ifs ifs1 : List Expr} {scope : Scope} {own : List (Str × Nat)} {vs1 : List Nat} {pos spos : Pos} {wi wi1 : TI} {g g1 : TG} {tt tt1 : TT} {tk tv : TE} (hu : X.A.units + 1 < cLine) (hc : X.calm = true) (hN : X.N.Nodup) (hy : X.N[i]? = some y) (hyl : X.env.scope.names.lookup y = some .local)
    (hsw : swapsWith (.DictComp kx vx [⟨tg, iter, ifs, 0⟩, ⟨tg1, iter1, ifs1, 0⟩] scope pos) (some (.Name y py)) spos.line X.env = pure true) (hi : PI X tg iter wi) (ok : BlkOk X.N X.env.scope scope own) (hv : ∀ i ∈ vs1, i ∈ own.map (·.2))
    (hg : ∀ (s : Shared) (H : Hp) (C : Addr) (cl : List (Str × Addr)) (fp : List Addr), PG (X.blk s H scope (compEnvC scope cl C X.env) fp) tg g) (ht : ∀ (s : Shared) (H : Hp) (C : Addr) (cl : List (Str × Addr)) (fp : List Addr), PTs (X.blk s H scope (compEnvC scope cl C X.env) fp) ifs tt)
    (hi1 : ∀ (s : Shared) (H : Hp) (C : Addr) (cl : List (Str × Addr)) (fp : List Addr), PI (X.blk s H scope (compEnvC scope cl C X.env) fp) tg1 iter1 wi1)
    (hg1 : ∀ (s : Shared) (H : Hp) (C : Addr) (cl : List (Str × Addr)) (fp : List Addr), PG (X.blk s H scope (compEnvC scope cl C X.env) fp) tg1 g1) (ht1 : ∀ (s : Shared) (H : Hp) (C : Addr) (cl : List (Str × Addr)) (fp : List Addr), PTs (X.blk s H scope (compEnvC scope cl C X.env) fp) ifs1 tt1)
    (hk : ∀ (s : Shared) (H : Hp) (C : Addr) (cl : List (Str × Addr)) (fp : List Addr), PE (X.blk s H scope (compEnvC scope cl C X.env) fp) kx tk)
    (he : ∀ (s : Shared) (H : Hp) (C : Addr) (cl : List (Str × Addr)) (fp : List Addr), PE (X.blk s H scope (compEnvC scope cl C X.env) fp) vx tv) (hs : ∀ x, foldedSetIterable iter X.env x = pure x := by intro _; rfl) (hs1 : ∀ env x, foldedSetIterable iter1 env x = pure x := by intro _ _; rfl) :
    PS X (.Assign [.Name y py] (.DictComp kx vx [⟨tg, iter, ifs, 0⟩, ⟨tg1, iter1, ifs1, 0⟩] scope pos) spos) (tAsg (tDc2 wi g tt wi1 g1 tt1 tk tv (own.map (·.2)) vs1) (gName i)) := by
  refine ⟨fun pins s σ H D I h => ?_⟩
  rw [exec_Assign_Name_used _ _ _ _ hsw]
  refine wpAny_bind (wpAny_standAt (wpAny_bind ?_))
  show wpAny _ X.A (do let _ ← comprehension (.DictComp kx vx [⟨tg, iter, ifs, 0⟩, ⟨tg1, iter1, ifs1, 0⟩] scope pos) scope X.env (firstIterPos [⟨tg, iter, ifs, 0⟩, ⟨tg1, iter1, ifs1, 0⟩] pos) newDict false (eval iter X.env) (some (assign (.Name y py) X.env))) _ _ s
  have h : tDc2 wi g tt wi1 g1 tt1 tk tv (own.map (·.2)) vs1 σ H (fun x H1 => gName i x σ H1 D.nx) := h
  refine wpAny_bind (thn (dc2_core (Qf := fun _ s' => SP X pins D .next s') hu hc hN I hi ok hv hg ht hk he hs hi1 hg1 ht1 hs1 h fun L C s' m H' I' q hn f => ?_) fun _ s' hq => wpAny_pure (wpAny_pure hq))
  show wpAny _ _ (assign (.Name y py) X.env (.ref L)) _ _ _
  refine wpAny_assign_Name (store_ok2 (v := V.ref L) I' hN hy (.inl hyl) rfl (fun s2 I2 ⟨a, sb, ha⟩ => ?_) (.inr hyl))
  obtain ⟨f0, f1, f2, f3, f4, f5⟩ := f
  have haC : C ≠ a := by
    rcases ha with z | z
    · rw [z]; exact f1
    · exact fun e => f4 y a z e.symm
  refine ⟨m, hn.sameBut sb haC, fun h3 sb3 => ?_⟩
  exact ⟨_, H', I2.turned (t' := s2.toks) (fun b o hb e => (sb3.2 b hb).trans e) f0 f1 f3 f4 f5, q⟩
end
end L2

/-! lists of the same things compared; counting comprehensions; dicts of points -/
namespace Ah
open PySem PySem.Spec PyProof.Rows L2 He
section
variable {X : Cx} {j : Nat}
/-- l != m, two lists of the very same things -/
def rNeSame : R2 := fun x y H Q => ∃ (a b : Addr) (xs : List Addr), x = .ref a ∧ y = .ref b ∧ H a = some (.lst (xs.map V.ref)) ∧ H b = some (.lst (xs.map V.ref)) ∧ Q (.bl false) H
theorem op_neSame (hr : Rm j X.A) : OpR X (compareOp .NotEq) rNeSame := by
  intro pins s σ H x y v u Q I rx ry h
  obtain ⟨a, b, xs, rfl, rfl, ha, hb, q⟩ := h
  cases (show v = Value.ref a from rx)
  cases (show u = Value.ref b from ry)
  have isl : ∀ (c : Addr), H c = some (.lst (xs.map V.ref)) → s.heap.IsList c (xs.map Value.ref).toArray := fun c hc => by
    obtain ⟨its, r, p, _⟩ := I.list (SqL.of hc)
    rw [map_unref r] at p
    exact p.isList
  have z := SeqAt.RcNeAt.lists (A := X.A) (e := fun _ => true) (isl a ha) (isl b hb) rfl (hu0 hr) fun i h1 h2 => SeqAt.EqAt.same _
  refine z X.prog X.w _ _ ?_
  have e : (!(List.range (xs.map Value.ref).toArray.size).all fun _ => true) = false := by simp
  rw [e]
  exact ⟨.bl false, H, I, rfl, q⟩
end
/-- how many things a comprehension keeps -/
theorem lc_count {K : Frag} {tl te : TE} {tt : TT} {σ : L2.St} {i : Nat} {H : Hp} {L : Addr} {xs : List V} {cs : List Bool} {Q : VK} (hL : H L = some (.lst xs)) (hc : cs.length = xs.length) (few : xs.length ≤ 1000000)
    (hl : ∀ Q', Q' (.ref L) H → tl σ H Q')
    (ht : ∀ (j : Nat) x b G Q', xs[j]? = some x → cs[j]? = some b → Same H G → (∀ G', Same G G' → Q' b G') → tt ((wipe σ [i]).set i (some x)) G Q')
    (he : ∀ x G Q', Q' x G → te ((wipe σ [i]).set i (some x)) G Q')
    (hw : ∀ x, wipe ((wipe σ [i]).set i (some x)) [i] = wipe σ [i])
    (q : ∀ H' D ys, Same H H' → H D = none → H' D = some (.lst ys) → ys.length = cs.count true → Q (.ref D) H') : tLc (iList K tl) (gName i) tt te [i] σ H Q := by
  refine hl _ ⟨L, rfl, ⟨_, SqL.of hL⟩, fun D hD => ?_⟩
  refine lc_it (walk_list (xs := xs)) (fun j H2 => (∃ ys, H2 D = some (.lst ys) ∧ ys.length = (cs.take j).count true ∧ ys.length ≤ j) ∧ Same H H2) ?_ (fun j H2 _ h => SqL.of (h.2 _ _ hL)) ?_ ?_
  · exact ⟨⟨[], upd_same, by simp, Nat.le_refl _⟩, Same.upd (Same.refl _) hD⟩
  · rintro j y H2 H3 hj ⟨⟨ys, hb, e, le⟩, s⟩ ⟨rfl, hy⟩
    have hj' : j < cs.length := by omega
    have et : cs.take (j + 1) = cs.take j ++ [cs[j]] := by
      rw [List.take_add_one, List.getElem?_eq_getElem hj']
      rfl
    refine ⟨hw _, ht j y cs[j] H3 _ hy (List.getElem?_eq_getElem hj') s fun G' sG => ?_⟩
    cases eb : cs[j] with
    | false =>
      rw [if_neg (by decide)]
      refine ⟨⟨ys, sG _ _ hb, ?_, by omega⟩, s.trans sG⟩
      rw [et, List.count_append, eb, e]
      simp
    | true =>
      rw [if_pos rfl]
      refine he y G' _ ⟨ys, sG _ _ hb, by rw [sizeLine_eq]; omega, ⟨ys ++ [y], upd_same, ?_, ?_⟩, fun b o hbo => ?_⟩
      · rw [et, List.count_append, eb, List.length_append, e]
        simp
      · rw [List.length_append]
        simp
        omega
      · rw [upd_ne (ne_of_none hbo hD)]
        exact (s.trans sG) _ _ hbo
  · rintro H2 ⟨⟨ys, hb, e, le⟩, s⟩
    rw [← hc, List.take_length] at e
    exact q H2 D ys s hD hb e
theorem putK_keys {κ : Type} [DecidableEq κ] (kvs : List (κ × V)) (k : κ) (v : V) : (putK kvs k v).map (·.1) = if k ∈ kvs.map (·.1) then kvs.map (·.1) else kvs.map (·.1) ++ [k] := by
  by_cases h : k ∈ kvs.map (·.1)
  · rw [if_pos h]
    obtain ⟨p, hp, rfl⟩ := List.mem_map.mp h
    have ha : kvs.any (fun x => x.1 = p.1) = true := List.any_eq_true.mpr ⟨p, hp, by simp⟩
    unfold putK
    simp only [ha, if_true]
    rw [List.map_map]
    apply List.map_congr_left
    intro x hx
    simp only [Function.comp_apply]
    split
    · rename_i e2
      simp_all
    · rfl
  · rw [if_neg h]
    have ha : kvs.any (fun x => x.1 = k) = false := by
      rw [Bool.eq_false_iff]
      intro z
      obtain ⟨x, hx, e⟩ := List.any_eq_true.mp z
      exact h (List.mem_map.mpr ⟨x, hx, by simpa using e⟩)
    unfold putK
    simp [ha]
theorem ptKey_inj {p q : Pt} (h : ptKey p = ptKey q) : p = q := by
  obtain ⟨n, z⟩ := p
  obtain ⟨m, y⟩ := q
  simp only [ptKey, List.cons.injEq, Sum.inl.injEq, Sum.inr.injEq, and_true] at h
  rw [h.1, h.2]
theorem ptKey_mem {p : Pt} {us : List Pt} : ptKey p ∈ us.map ptKey ↔ p ∈ us := by
  constructor
  · intro h
    obtain ⟨q, hq, e⟩ := List.mem_map.mp h
    rw [← ptKey_inj e]
    exact hq
  · exact fun h => List.mem_map.mpr ⟨p, h, rfl⟩
/-- a dict whose keys are the points put so far -/
def Dk (D : Addr) (H : Hp) (put : List Pt) (H2 : Hp) : Prop := ∃ (kvs : List (List Key × V)) (us : List Pt), H2 D = some (.dT kvs) ∧ kvs.map (·.1) = us.map ptKey ∧ us.Nodup ∧ (∀ p, p ∈ us ↔ p ∈ put) ∧ us.length ≤ put.length ∧ Same H H2
theorem Dk.nil {D : Addr} {H : Hp} (hD : H D = none) : Dk D H [] (upd H D (.dT [])) := ⟨[], [], upd_same, rfl, List.nodup_nil, fun p => Iff.rfl, Nat.le_refl _, Same.upd (Same.refl _) hD⟩
theorem Dk.same {D : Addr} {H H2 H3 : Hp} {put : List Pt} (h : Dk D H put H2) (s : Same H2 H3) : Dk D H put H3 := by
  obtain ⟨kvs, us, h1, h2, h3, h4, h5, h6⟩ := h
  exact ⟨kvs, us, s _ _ h1, h2, h3, h4, h5, h6.trans s⟩
theorem Dk.put {D : Addr} {H H2 : Hp} {put : List Pt} {a : Addr} {p : Pt} {v : V} (h : Dk D H put H2) (hD : H D = none) (few : put.length ≤ 100000) (ha : PtAt H2 a p) :
    ∃ kvs k bq, V.ref a = .ref bq ∧ H2 bq = some (.tup (List.map kV k)) ∧ H2 D = some (.dT kvs) ∧ kvs.length < sizeLine ∧ Dk D H (put ++ [p]) (upd H2 D (.dT (putK kvs k v))) := by
  obtain ⟨kvs, us, h1, hks, hnd, hm, hlen, s⟩ := h
  have hl : kvs.length = us.length := by
    have z := congrArg List.length hks
    simpa using z
  refine ⟨kvs, ptKey p, a, rfl, ha, h1, by rw [sizeLine_eq]; omega, ?_⟩
  have sm : Same H (upd H2 D (.dT (putK kvs (ptKey p) v))) := fun b o hbo => by
    rw [upd_ne (ne_of_none hbo hD)]
    exact s _ _ hbo
  by_cases hpu : p ∈ us
  · refine ⟨_, us, upd_same, ?_, hnd, fun r => ?_, by rw [List.length_append]; simp; omega, sm⟩
    · rw [putK_keys, hks, if_pos (ptKey_mem.mpr hpu)]
    · rw [hm r, List.mem_append, List.mem_singleton]
      constructor
      · exact .inl
      · rintro (h | rfl)
        · exact h
        · exact (hm r).mp hpu
  · refine ⟨_, us ++ [p], upd_same, ?_, ?_, fun r => ?_, by simp only [List.length_append, List.length_singleton]; omega, sm⟩
    · rw [putK_keys, hks, if_neg (fun h => hpu (ptKey_mem.mp h)), List.map_append]
      rfl
    · rw [List.nodup_append]
      refine ⟨hnd, by simp, fun x hx y hy => ?_⟩
      rw [List.mem_singleton] at hy
      subst hy
      exact fun e => hpu (e ▸ hx)
    · rw [List.mem_append, List.mem_append, hm r]
theorem two_len : ∀ es : List (Pt × Pt), (es.flatMap fun e => [e.1, e.2]).length = 2 * es.length
  | [] => rfl
  | e :: r => by
    have := two_len r
    simp only [List.flatMap_cons, List.length_append, List.length_cons, List.length_nil]
    omega
/-- {p: .. for x in list for p in (two points)} -/
theorem dc2_pts {K : Frag} {tl tp tk tv : TE} {σ : L2.St} {i j : Nat} {H : Hp} {L : Addr} {xs : List V} {es : List (Pt × Pt)} {w : V} {Q : VK} (hL : H L = some (.lst xs)) (hlen : es.length = xs.length) (few : xs.length ≤ 10000)
    (hl : ∀ Q', Q' (.ref L) H → tl σ H Q')
    (hp : ∀ (n : Nat) x e G Q', xs[n]? = some x → es[n]? = some e → Same H G → (∀ r a b G', Same G G' → G r = none → G' r = some (.tup [.ref a, .ref b]) → PtAt G' a e.1 → PtAt G' b e.2 → Q' (.ref r) G') → tp ((wipe σ [i, j]).set i (some x)) G Q')
    (hk : ∀ x a G Q', Q' (.ref a) G → tk ((wipe ((wipe σ [i, j]).set i (some x)) [j]).set j (some (.ref a))) G Q')
    (hv : ∀ x a G Q', Q' w G → tv ((wipe ((wipe σ [i, j]).set i (some x)) [j]).set j (some (.ref a))) G Q')
    (hw : ∀ x, wipe ((wipe σ [i, j]).set i (some x)) [i, j] = wipe σ [i, j])
    (hw2 : ∀ x y, wipe ((wipe ((wipe σ [i, j]).set i (some x)) [j]).set j (some y)) [j] = wipe ((wipe σ [i, j]).set i (some x)) [j])
    (q : ∀ H' D (kvs : List (List Key × V)) (us : List Pt), Same H H' → H D = none → H' D = some (.dT kvs) → kvs.map (·.1) = us.map ptKey → us.Nodup → (∀ p, p ∈ us ↔ p ∈ es.flatMap fun e => [e.1, e.2]) → us.length ≤ 2 * es.length → Q (.ref D) H') :
    tDc2 (iList K tl) (gName i) tYes (iTup K tp) (gName j) tYes tk tv [i, j] [j] σ H Q := by
  refine hl _ ⟨L, rfl, ⟨_, SqL.of hL⟩, fun D hD => ?_⟩
  have wk := walk_list (K := K) (a := L) (xs := xs)
  let fl : Nat → List Pt := fun n => (es.take n).flatMap fun e => [e.1, e.2]
  have fl1 : ∀ {n : Nat} {e : Pt × Pt}, es[n]? = some e → fl (n + 1) = fl n ++ [e.1, e.2] := fun {n e} h => by
    show (es.take (n + 1)).flatMap _ = _
    rw [List.take_add_one, h]
    simp [fl]
  have fll : ∀ n, (fl n).length ≤ 2 * n := fun n => by
    show ((es.take n).flatMap _).length ≤ _
    rw [two_len]
    have : (es.take n).length ≤ n := List.length_take_le _ _
    omega
  refine ⟨fun n m H2 => m = xs.length - n ∧ n ≤ xs.length ∧ Dk D H (fl n) H2, ⟨xs.length, by simp, Nat.zero_le _, .nil hD⟩, ?_⟩
  rintro n m H2 ⟨rfl, hn, dk⟩
  have s2 : Same H H2 := by
    obtain ⟨_, _, _, _, _, _, _, s⟩ := dk
    exact s
  have hsq : SqL K H2 L xs := SqL.of (s2 _ _ hL)
  by_cases hlt : n < xs.length
  · refine .inr ⟨wk.goes n H2 hlt hsq, fun H' => Dk D H (fl (n + 1)) H', fun H' p' => ⟨xs.length - (n + 1), by omega, rfl, hlt, p'⟩, fun x H3 y => ?_⟩
    obtain ⟨rfl, hy⟩ := wk.yields n H2 x H3 hlt hsq y
    have he : es[n]? = some es[n] := List.getElem?_eq_getElem (by omega)
    refine ⟨hw _, ?_⟩
    dsimp only [tYes]
    rw [if_pos rfl]
    refine hp n x es[n] H3 _ hy he s2 fun r a b G sG nr hr ha hb => ?_
    refine ⟨r, rfl, ⟨_, SqT.of hr⟩, ?_⟩
    have wt := walk_tup (K := K) (a := r) (xs := [.ref a, .ref b])
    let mid : Nat → List Pt := fun k => fl n ++ [es[n].1, es[n].2].take k
    refine ⟨fun k m' H4 => m' = 2 - k ∧ k ≤ 2 ∧ Dk D H (mid k) H4 ∧ Tk G H4, ⟨2, rfl, Nat.zero_le _, ?_, .same (Same.refl _)⟩, ?_⟩
    · show Dk D H (fl n ++ []) G
      rw [List.append_nil]
      exact dk.same sG
    rintro k m' H4 ⟨rfl, hk2, dk4, tk4⟩
    have hr4 : SqT K H4 r [.ref a, .ref b] := SqT.of (tk4 _ _ hr)
    by_cases hk1 : k < 2
    · refine .inr ⟨wt.goes k H4 hk1 hr4, fun H' => Dk D H (mid (k + 1)) H' ∧ Tk G H', fun H' p' => ⟨2 - (k + 1), by omega, rfl, hk1, p'⟩, fun y H5 yy => ?_⟩
      obtain ⟨rfl, hy5⟩ := wt.yields k H4 y H5 hk1 hr4 yy
      have key : ∃ (c : Addr) (s : Pt), y = .ref c ∧ PtAt H5 c s ∧ mid (k + 1) = mid k ++ [s] := by
        rcases (show k = 0 ∨ k = 1 by omega) with rfl | rfl
        · simp at hy5
          exact ⟨a, es[n].1, hy5.symm, tk4 _ _ ha, by simp [mid]⟩
        · simp at hy5
          exact ⟨b, es[n].2, hy5.symm, tk4 _ _ hb, by simp [mid]⟩
      obtain ⟨c, s, rfl, hc, em⟩ := key
      refine ⟨hw2 _ _, ?_⟩
      dsimp only [tYes]
      rw [if_pos rfl]
      refine hk x c H5 _ (hv x c H5 _ ?_)
      have lm : (mid k).length ≤ 100000 := by
        have := fll n
        simp only [mid, List.length_append, List.length_take]
        omega
      obtain ⟨kvs, kk, bq, e1, e2, e3, e4, e5⟩ := dk4.put (v := w) hD lm hc
      refine ⟨kvs, kk, bq, e1, e2, e3, e4, by rw [em]; exact e5, tk4.trans (Tk.upd e3 (fun xs z => by cases z))⟩
    · have ek : k = 2 := by omega
      subst ek
      refine .inl ⟨wt.stops H4 hr4, ?_⟩
      have : mid 2 = fl (n + 1) := by
        rw [fl1 he]
        rfl
      rw [← this]
      exact dk4
  · have e : n = xs.length := by omega
    subst e
    obtain ⟨kvs, us, h1, h2, h3, h4, h5, h6⟩ := dk
    have et : fl xs.length = es.flatMap fun e => [e.1, e.2] := by
      show (es.take xs.length).flatMap _ = _
      rw [← hlen, List.take_length]
    rw [et] at h4 h5
    have hl2 : us.length ≤ 2 * es.length := by
      rw [two_len] at h5
      exact h5
    exact .inl ⟨wk.stops H2 hsq, q H2 D kvs us h6 hD h1 h2 h3 h4 hl2⟩
/-- .. the list made on the way -/
theorem dc2_ptsM {K : Frag} {tl tp tk tv : TE} {σ : L2.St} {i j : Nat} {H : Hp} {xs : List V} {es : List (Pt × Pt)} {w : V} {Q : VK} (hlen : es.length = xs.length) (few : xs.length ≤ 10000)
    (hl : ∀ Q' : VK, (∀ G L, Same H G → G L = some (.lst xs) → Q' (.ref L) G) → tl σ H Q')
    (hp : ∀ (n : Nat) x e G Q', xs[n]? = some x → es[n]? = some e → Same H G → (∀ r a b G', Same G G' → G r = none → G' r = some (.tup [.ref a, .ref b]) → PtAt G' a e.1 → PtAt G' b e.2 → Q' (.ref r) G') → tp ((wipe σ [i, j]).set i (some x)) G Q')
    (hk : ∀ x a G Q', Q' (.ref a) G → tk ((wipe ((wipe σ [i, j]).set i (some x)) [j]).set j (some (.ref a))) G Q')
    (hv : ∀ x a G Q', Q' w G → tv ((wipe ((wipe σ [i, j]).set i (some x)) [j]).set j (some (.ref a))) G Q')
    (hw : ∀ x, wipe ((wipe σ [i, j]).set i (some x)) [i, j] = wipe σ [i, j])
    (hw2 : ∀ x y, wipe ((wipe ((wipe σ [i, j]).set i (some x)) [j]).set j (some y)) [j] = wipe ((wipe σ [i, j]).set i (some x)) [j])
    (q : ∀ H' D (kvs : List (List Key × V)) (us : List Pt), Same H H' → H D = none → H' D = some (.dT kvs) → kvs.map (·.1) = us.map ptKey → us.Nodup → (∀ p, p ∈ us ↔ p ∈ es.flatMap fun e => [e.1, e.2]) → us.length ≤ 2 * es.length → Q (.ref D) H') :
    tDc2 (iList K tl) (gName i) tYes (iTup K tp) (gName j) tYes tk tv [i, j] [j] σ H Q := by
  refine hl _ fun G L s hL => ?_
  have z : tDc2 (iList K (fun σ H Q => Q (.ref L) H)) (gName i) tYes (iTup K tp) (gName j) tYes tk tv [i, j] [j] σ G Q :=
    dc2_pts hL hlen few (fun Q' q' => q') (fun n x e G1 Q' h1 h2 s1 q' => hp n x e G1 Q' h1 h2 (s.trans s1) q') hk hv hw hw2 fun H' D kvs us s' n h => q H' D kvs us (s.trans s') (s.free n) h
  exact z
end Ah

/-! errors held as values -/
namespace PySem.HandSPX
open PySem PySem.W PySem.Calls PyProof.Rows
section
variable {M : Model} {prog : Program} {w : World} {A : Around} {E : Value → Shared → Prop} {R : Result → Shared → Prop} {h : Heap} {g : Array GenState} {d : Drawn} {t : Nat} {os : OsState}
variable {nm q : Str} {C N : Addr} {bs bm bmB : List Value} {hdct : Bool} {sn : List Str} {sub : List Value} {ab : Bool} {col : Option Bool} {dd : Option Addr} {k0 k1 k2 k3 k5 : Option Value} {B newId initId : String}
/-- __new__'s look at the call, keywords among the arguments -/
theorem check_newK (F : ExcBaseFacts B newId initId bmB) (hT : ∀ X : String, bm.contains (.type X) = bmB.contains (.type X)) {kw : List (Str × Value)} {Q : Unit → Shared → Prop}
    (hC : h.get? C = some (excClassObj nm q C N bs bm hdct sn sub ab col dd k0 k1 k2 k3 k5 newId)) (hq : Q () ⟨h, g, d, t, os⟩) : wpAny M A (checkBuiltinCall newId ⟨[.ref C], kw⟩) Q E ⟨h, g, d, t, os⟩ := by
  have hcont : (Value.ref C :: bm).contains (.type B) = true := by rw [List.contains_cons, hT, F.hasB, Bool.or_true]
  have hstar := F.noStar
  simp only [checkBuiltinCall, F.newKind, F.newSplit, F.newRow]
  repeat (first | refine wpAny_loadPart_at hC ?_ | (refine wpAny_isSubtype_exc hC ?_; rw [hcont]) | refine wpAny_staticBase_exc hC ?_ | refine wpAny_madeBy_exc hC ?_ | simp only [bne_self_eq_false, Bool.false_eq_true, if_false] | wp_step)
  exact hq
theorem newK (F : ExcBaseFacts B newId initId bmB) (hT : ∀ X : String, bm.contains (.type X) = bmB.contains (.type X)) {kw : List (Str × Value)}
    (hC : h.get? C = some (excClassObj nm q C N bs bm hdct sn sub ab col dd k0 k1 k2 k3 k5 newId))
    (hq : R (.ok (.ret (.ref (h.objs.size + 1)))) ⟨(h.push (W.kdv_tup [])).push (excO C h.objs.size), g, d, t, os⟩) :
    codeAny (model prog w) A (.builtin newId ⟨[.ref C], kw⟩) R ⟨h, g, d, t, os⟩ := by
  have hends := F.ends
  have hrest : ([] : List Value).length ≤ sizeLine := Nat.zero_le _
  have hcB : (Value.ref C :: bm).contains (.type B) = true := by rw [List.contains_cons, hT, F.hasB, Bool.or_true]
  have hcA : (Value.ref C :: bm).contains (.type "AttributeError") = false := by rw [List.contains_cons, hT, F.noAttr]; rfl
  have hcN : (Value.ref C :: bm).contains (.type "NameError") = false := by rw [List.contains_cons, hT, F.noName]; rfl
  refine codeAny_builtinAt F.entry ?_
  unfold Builtin.«BaseException.__new__»
  refine wpAt_bind ?_
  show wpAt _ _ _ (stack >>= _) _ _ _
  refine wpAt_bind (wpAt_stack fun p below => wpAt_of_wpAny ?_)
  wp_walk
  refine wpAt_of_wpAny ?_
  rw [F.owner]
  repeat (first | with_reducible refine wpAny_madeHere_exc F.canon hC ?_ | with_reducible refine wpAny_loadPart_at hC ?_ | (with_reducible refine wpAny_isSubtype_exc hC ?_; first | rw [hcB] | rw [hcA] | rw [hcN]) | wp_step)
  show R _ _
  rw [Heap.size_push]
  exact hq
theorem type_callK (F : ExcBaseFacts B newId initId bmB) (hT : ∀ X : String, bm.contains (.type X) = bmB.contains (.type X)) {kw : List (Str × Value)} {fI : Addr} {Q : Fin → Shared → Prop}
    (hC : h.get? C = some (excClassObj nm q C N bs bm hdct sn sub ab col dd k0 k1 k2 k3 k5 newId))
    (hi : W.Looks (model prog w) h (typeLookup (.ref C) "__init__") (some (.ref fI))) (hb : ∀ self, W.Looks (model prog w) h (bindSpecial (.ref fI) self) (.ref fI, [self]))
    (hq : codeAny (model prog w) A (.call (.ref fI) ⟨[.ref (h.objs.size + 1)], kw⟩)
      (fun r s' => match r with | .ok (.ret v) => v = .none ∧ Q (.done (.ret (.ref (h.objs.size + 1)))) s' | .ok _ => False | .error e => E e s')
      ⟨(h.push (W.kdv_tup [])).push (excO C h.objs.size), g, d, t, os⟩) :
    wpAny (model prog w) A (Builtin.«type.__call__» ⟨[.ref C], kw⟩) Q E ⟨h, g, d, t, os⟩ := by
  repeat (first | with_reducible refine wpAny_loadPart_at hC ?_ | with_reducible refine wpAny_madeBy_exc hC ?_ | wp_step)
  refine codeAny_call_builtin_code (Code.quiet_builtin _ F.quiet) (check_newK F hT hC ?_)
  refine newK F hT hC ?_
  show wpAny _ _ _ _ _ _
  have k : ∀ b o, h.get? b = some o → ((h.push (W.kdv_tup [])).push (excO C h.objs.size)).get? b = some o := fun b o e => Heap.get?_push_of_some _ (Heap.get?_push_of_some _ e)
  have hC₁ := k _ _ hC
  have hget : ((h.push (W.kdv_tup [])).push (excO C h.objs.size)).get? (h.objs.size + 1) = some (excO C h.objs.size) := by heap_get
  have hcC : (Value.ref C :: bm).contains (.ref C) = true := by simp
  have i1 := hi.keeps k
  have b1 := (hb (.ref (h.objs.size + 1))).keeps k
  unfold isInstance
  repeat (first | with_reducible refine wpAny_loadPart_at hget ?_ | (with_reducible refine wpAny_isSubtype_exc hC₁ ?_; rw [hcC]) | wp_step)
  show wpAny _ _ (typeLookup (.ref C) _) _ _ _
  refine i1.at ?_
  refine wpAny_holding (wpAny_bind (b1.at ?_))
  refine wpAny_bind (wpAny_call (codeAny_mono hq fun r s' z => ?_))
  rcases r with e | (v | _ | _ | _) <;> first | exact z | exact z.elim | skip
  obtain ⟨rfl, z⟩ := z
  first
    | exact wpAny_pure (wpAny_pure z)
    | (wp_walk; exact z)
theorem call_ownK (F : ExcBaseFacts B newId initId bmB) (hT : ∀ X : String, bm.contains (.type X) = bmB.contains (.type X)) {kw : List (Str × Value)} {fI : Addr}
    (hC : h.get? C = some (excClassObj nm q C N bs bm hdct sn sub ab col dd k0 k1 k2 k3 k5 newId))
    (hi : W.Looks (model prog w) h (typeLookup (.ref C) "__init__") (some (.ref fI))) (hb : ∀ self, W.Looks (model prog w) h (bindSpecial (.ref fI) self) (.ref fI, [self]))
    (hq : codeAny (model prog w) (A.under (.builtin "type.__call__" ⟨[.ref C], kw⟩)) (.call (.ref fI) ⟨[.ref (h.objs.size + 1)], kw⟩) (W.InitBack (h.objs.size + 1) R)
      ⟨(h.push (W.kdv_tup [])).push (excO C h.objs.size), g, d, t, os⟩) :
    codeAny (model prog w) A (.call (.ref C) ⟨[], kw⟩) R ⟨h, g, d, t, os⟩ := by
  have f1 := tc_lookup
  have f2 := tc_bind (.ref C)
  have hTy : (⟨h, g, d, t, os⟩ : Shared).TypeIs (.ref C) "type" := ⟨_, hC, rfl⟩
  refine codeAny_of_tree ?_
  show wpAny _ _ (callAny (.ref C) _) _ _ _
  repeat (any_goals (first | assumption | with_reducible refine wpAny_loadPart_at hC ?_ | wp_step))
  refine ⟨rfl, ?_⟩
  refine codeAny_call_builtin_at (Code.quiet_builtin _ (by decide +kernel)) entry_typeCall (wpAny_check_type_call_sub hC (type_callK F hT hC hi hb ?_))
  refine codeAny_mono hq fun r s' z => ?_
  rcases r with e | (v | _ | _ | _) <;> exact z
end
end PySem.HandSPX
namespace Ah
open PySem PySem.Spec PyProof.Rows L2 He
/-- an error as a value: its class, its fields -/
def EvAt (H : Hp) (a C : Addr) (fs : List (Str × V)) : Prop := ∃ dx, H a = some (exo a C (some dx)) ∧ H dx = some (exd dx fs)
theorem EvAt.same {H H' : Hp} {a C : Addr} {fs : List (Str × V)} (h : EvAt H a C fs) (s : Same H H') : EvAt H' a C fs := by
  obtain ⟨dx, h1, h2⟩ := h
  exact ⟨dx, s _ _ h1, s _ _ h2⟩
/-- .. without fields -/
def EvN (H : Hp) (a C : Addr) : Prop := H a = some (ExO (.ref C) a)
def tMkV (C : Addr) (sp : Sp) (ta : TA) : TE := fun σ H Q => ta σ H fun vs H1 => vs.length ≤ 1000 ∧ ∀ a, H1 a = none → sp (.ref a :: vs) (upd H1 a (exo a C none)) (fun x H2 => x = .non ∧ Q (.ref a) H2) (fun _ _ _ => False)
/-- the def at f keeps sp when it is called with itself and keywords -/
structure FnUk (P : Program) (w : World) (K : Frag) (mg : Str → Option Value) (base : Heap) (k : Nat) (f : Addr) (ks : List Str) (sw : Bool) (sp : Sp) : Prop where
  ex : ∃ fd ps, FnOk P w K mg base (L2.CX P w) k f fd ps sp ∧ ∀ s (u : Value) (us : List Value), us.length = ks.length → BindsTo s fd ⟨[u], ks.zip us⟩ (ps.zip (u :: (if sw then us.reverse else us)))
theorem okUk {P : Program} {w : World} {K : Frag} {mg : Str → Option Value} {base : Heap} {N ps ks : List Str} {k : Nat} {sw : Bool} {sp : Sp} {d : DefG} (S : Stands K d) (h0 : d.dfl = []) (sc : FnScope N ps d.scope) (len : ∀ vs H Q E, sp vs H Q E → vs.length = ps.length)
    (hb : ∀ (kV doc pm : Value) (an : Option Addr) (cdv ct u : Value) (us : List Value), us.length = ks.length → bindArgs (PySem.W.fnOf d.name d.qual d.params d.body d.scope .none kV doc pm an cdv ct) ⟨[u], ks.zip us⟩ = pure (ps.zip (u :: (if sw then us.reverse else us))))
    (hbody : ∀ (cdv : Value) (A : Around) (outer : List Env) (s : Shared) (H : Hp) (vs : List V) (Q : VK) (E : XK), Room k (A.deeper (envOfC d.qual d.scope s.heap.objs.size (d.ad K) cdv)) → sp vs H Q E →
      ∃ t, PSs (cxOf (L2.CX P w) P w K mg base N d.qual d.scope (d.ad K) cdv A outer s H E) d.body t ∧ t { nx := fun _ H' => Q .non H', rt := Q } (L2.start N vs) H) : FnUk P w K mg base (k + 1) (d.ad K) ks sw sp := by
  obtain ⟨fd, F⟩ := S
  have e : d.dvs K = [] := by unfold DefG.dvs; rw [h0]; rfl
  rw [e] at F
  refine ⟨⟨fd, ps, F.ok sc len hbody, fun s u us hl => ?_⟩⟩
  obtain ⟨oc, od, dV, kV, doc, pm, an, cdv, ct, osl, rfl, lk, hcd, hdf, _⟩ := F.ex
  have hdV : dV = .none := by
    rcases hdf with ⟨_, z⟩ | ⟨z, _⟩
    · exact z
    · exact absurd rfl z
  subst hdV
  intro M A Q E z
  rw [hb kV doc pm an cdv ct u us hl]
  exact wpAny_pure z
theorem vals_app {xs ys : List V} {us vs : List Value} (h : Vals xs us) (g : Vals ys vs) : Vals (xs ++ ys) (us ++ vs) := by
  induction h with
  | nil => exact g
  | cons r _ ih => exact .cons r ih
theorem vals_rev {xs : List V} {us : List Value} (h : Vals xs us) : Vals xs.reverse us.reverse := by
  induction h with
  | nil => exact .nil
  | cons r _ ih =>
    rw [List.reverse_cons, List.reverse_cons]
    exact vals_app ih (.cons r .nil)
section
variable {X : Cx} {C : Str} {e : Expr} {es : List Expr} {ta : TA} {sp : Sp} {k j : Nat} {p pos : Pos} {kws : List Keyword} {ks : List Str} {sw : Bool}
/-- C(e, ..), an error as a value -/
theorem pe_mkV (T : ExcT X.K X.mg C) (F : FnU X.prog X.w X.K X.mg X.base k (ma X.K (ga X.K C) "__init__") sp) (hr : Rm j X.A) (ha : PA X (e :: es) ta) (hk : k + 1 ≤ j := by decide) (hg : Gl X C := by rfl)
    (hdb : (C == ("__debug__" : Str)) = false := by decide) (he : starEach (e :: es) X.env = (false, eval e X.env) :: starEach es X.env := by rfl) (hpl : (backTo pos (starEach es X.env)).any (·.1) = false := by rfl) :
    PE X (.Call (.Name C p) (e :: es) [] pos) (tMkV (ga X.K C) sp ta) := by
  obtain ⟨⟨fd, ps, F1, hb⟩⟩ := F
  refine ⟨fun pins s σ H Q I h => ?_⟩
  obtain ⟨b, nm, q, N, bs, sn, sub, ab, col, dd, k0, k1, k2, k3, k5, hC⟩ := T.o.cls
  refine wpAny_Call_Name_kw (ld_glob I hg T.g ?_ hdb)
  refine PySem.W.callWith_K (h₀ := X.base) I.ok.mod.kin T.o.kC (thn (ha.run pos pins s σ H _ I h) fun us s1 ⟨vs, H1, I1, r1, hz, q1⟩ => ⟨I1.kIn, ?_⟩) he hpl
  show wpAny _ _ (call (.ref (ga X.K C)) us) _ _ _
  obtain ⟨hp, g, dr, tk, os⟩ := s1
  have hsz : hp.objs.size ≤ hp.objs.size + 1 := Nat.le_succ _
  have hn : H1 (hp.objs.size + 1) = none := I1.hok.fresh hsz
  have hq := q1 (hp.objs.size + 1) hn
  have kk : ∀ b o, hp.get? b = some o → ((hp.push (PySem.W.kdv_tup us)).push (PySem.HandSPX.excO (ga X.K C) hp.objs.size)).get? b = some o := fun b o e => Heap.get?_push_of_some _ (Heap.get?_push_of_some _ e)
  have hget : ((hp.push (PySem.W.kdv_tup us)).push (PySem.HandSPX.excO (ga X.K C) hp.objs.size)).get? (hp.objs.size + 1) = some (PySem.HandSPX.excO (ga X.K C) hp.objs.size) := by heap_get
  have I2 : L2.Inv X pins σ (upd H1 (hp.objs.size + 1) (exo (hp.objs.size + 1) (ga X.K C) none)) ⟨(hp.push (PySem.W.kdv_tup us)).push (PySem.HandSPX.excO (ga X.K C) hp.objs.size), g, dr, tk, os⟩ :=
    I1.laid (t' := tk) (a := hp.objs.size + 1) (o := exo (hp.objs.size + 1) (ga X.K C) none) (h' := (hp.push (PySem.W.kdv_tup us)).push (PySem.HandSPX.excO (ga X.K C) hp.objs.size)) kk hsz (exo_ok hget)
  have r2 : Vals (V.ref (hp.objs.size + 1) :: vs) (Value.ref (hp.objs.size + 1) :: us) := .cons rfl r1
  have hl : (Value.ref (hp.objs.size + 1) :: us ++ []).length = ps.length := by
    rw [List.append_nil, ← r2.length]
    exact F1.len _ _ _ _ hq
  have hus : us.length ≤ sizeLine := by
    rw [← Paired.length r1, sizeLine_eq]
    omega
  have bb := hb _ (Value.ref (hp.objs.size + 1) :: us) I2.kIn hl
  rw [List.append_nil] at bb
  refine wpAny_call (PySem.HandSPX.call_own b.base (fun Y => rfl) (I1.kIn _ _ hC) (PySem.W.looks_findIn I1.kIn T.i) (fun self => PySem.W.bind_fn I1.kIn self T.t) hus
    (codeAny_mono (F1.run _ X.stack _ _ ⟨Value.ref (hp.objs.size + 1) :: us, []⟩ (Value.ref (hp.objs.size + 1) :: us) _ _ (fun _ _ _ => False) ((hr.r.mono hk).make (ga X.K C) us []) (I2.env0.make (ga X.K C) us []) bb r2 hq) fun r s' hq' => ?_))
  match r, hq' with
  | .error er, hq' => exact passL pins σ _ _ er s' I2 hq'
  | .ok (.ret u), hq' =>
    obtain ⟨v, H', I3, rv, ev, q3⟩ := I2.after hq'
    subst ev
    exact ⟨rv, V.ref (hp.objs.size + 1), H', I3, rfl, q3⟩
/-- C(f=e, ..) -/
theorem pe_mkVk (T : ExcT X.K X.mg C) (F : FnUk X.prog X.w X.K X.mg X.base k (ma X.K (ga X.K C) "__init__") ks sw sp) (hr : Rm j X.A) (ha : PK X kws ta) (hk : k + 1 ≤ j := by decide) (hg : Gl X C := by rfl)
    (hall : (backToKw pos (keywordEach kws X.env)).all (·.1.isSome) = true := by rfl) (hks : (backToKw pos (keywordEach kws X.env)).filterMap (·.1) = ks := by rfl)
    (hdb : (C == ("__debug__" : Str)) = false := by decide) (hpl : ((backTo pos (starEach [] X.env)).any (·.1) || (backToKw pos (keywordEach kws X.env)).any (·.1.isNone)) = false := by rfl) :
    PE X (.Call (.Name C p) [] kws pos) (fun σ H Q => ta σ H fun vs H1 => vs.length = ks.length ∧ ∀ a, H1 a = none → sp (.ref a :: (if sw then vs.reverse else vs)) (upd H1 a (exo a (ga X.K C) none)) (fun x H2 => x = .non ∧ Q (.ref a) H2) (fun _ _ _ => False)) := by
  obtain ⟨⟨fd, ps, F1, hb⟩⟩ := F
  refine ⟨fun pins s σ H Q I h => ?_⟩
  obtain ⟨b, nm, q, N, bs, sn, sub, ab, col, dd, k0, k1, k2, k3, k5, hC⟩ := T.o.cls
  refine wpAny_Call_Name_kw (ld_glob I hg T.g ?_ hdb)
  refine PySem.W.callWith_KW0 (first := []) (h₀ := X.base) I.ok.mod.kin T.o.kC hall (thn (ha.run pos pins s σ H _ I h) fun us s1 ⟨vs, H1, I1, r1, hz, q1⟩ => ⟨I1.kIn, ?_⟩) hpl
  rw [hks]
  show wpAny _ _ (call (.ref (ga X.K C)) [] (ks.zip us)) _ _ _
  obtain ⟨hp, g, dr, tk, os⟩ := s1
  have hsz : hp.objs.size ≤ hp.objs.size + 1 := Nat.le_succ _
  have hn : H1 (hp.objs.size + 1) = none := I1.hok.fresh hsz
  have hq := q1 (hp.objs.size + 1) hn
  have kk : ∀ b o, hp.get? b = some o → ((hp.push (PySem.W.kdv_tup [])).push (PySem.HandSPX.excO (ga X.K C) hp.objs.size)).get? b = some o := fun b o e => Heap.get?_push_of_some _ (Heap.get?_push_of_some _ e)
  have hget : ((hp.push (PySem.W.kdv_tup [])).push (PySem.HandSPX.excO (ga X.K C) hp.objs.size)).get? (hp.objs.size + 1) = some (PySem.HandSPX.excO (ga X.K C) hp.objs.size) := by heap_get
  have I2 : L2.Inv X pins σ (upd H1 (hp.objs.size + 1) (exo (hp.objs.size + 1) (ga X.K C) none)) ⟨(hp.push (PySem.W.kdv_tup [])).push (PySem.HandSPX.excO (ga X.K C) hp.objs.size), g, dr, tk, os⟩ :=
    I1.laid (t' := tk) (a := hp.objs.size + 1) (o := exo (hp.objs.size + 1) (ga X.K C) none) (h' := (hp.push (PySem.W.kdv_tup [])).push (PySem.HandSPX.excO (ga X.K C) hp.objs.size)) kk hsz (exo_ok hget)
  have r2 : Vals (if sw then vs.reverse else vs) (if sw then us.reverse else us) := by
    cases sw
    · exact r1
    · exact vals_rev r1
  have r3 : Vals (V.ref (hp.objs.size + 1) :: (if sw then vs.reverse else vs)) (Value.ref (hp.objs.size + 1) :: (if sw then us.reverse else us)) := .cons rfl r2
  have bb := hb ⟨(hp.push (PySem.W.kdv_tup [])).push (PySem.HandSPX.excO (ga X.K C) hp.objs.size), g, dr, tk, os⟩ (Value.ref (hp.objs.size + 1)) us (by rw [← r1.length]; exact hz)
  refine wpAny_call (PySem.HandSPX.call_ownK b.base (fun Y => rfl) (I1.kIn _ _ hC) (PySem.W.looks_findIn I1.kIn T.i) (fun self => PySem.W.bind_fn I1.kIn self T.t)
    (codeAny_mono (F1.run _ X.stack _ _ ⟨[Value.ref (hp.objs.size + 1)], ks.zip us⟩ (Value.ref (hp.objs.size + 1) :: (if sw then us.reverse else us)) _ _ (fun _ _ _ => False) ((hr.r.mono hk).make (ga X.K C) [] (ks.zip us)) (I2.env0.make (ga X.K C) [] (ks.zip us)) bb r3 hq) fun r s' hq' => ?_))
  match r, hq' with
  | .error er, hq' => exact passL pins σ _ _ er s' I2 hq'
  | .ok (.ret u), hq' =>
    obtain ⟨v, H', I3, rv, ev, q3⟩ := I2.after hq'
    subst ev
    exact ⟨rv, V.ref (hp.objs.size + 1), H', I3, rfl, q3⟩
/-- C(), a class without an own __init__ -/
theorem pe_mkV0 {bmB : List Value} {B newId initId : String} (F : ExcBaseFacts B newId initId bmB) (q : PySem.W.excIn X.K (ga X.K C) bmB newId = true) (gC : X.mg C = some (.ref (ga X.K C))) (kC : PySem.W.keepIn X.K (.ref (ga X.K C)) = true) (hg : Gl X C := by rfl) (hdb : (C == ("__debug__" : Str)) = false := by decide) :
    PE X (.Call (.Name C p) [] [] pos) (fun σ H Q => ∀ a, H a = none → Q (.ref a) (upd H a (ExO (.ref (ga X.K C)) a))) := by
  refine ⟨fun pins s σ H Q I h => ?_⟩
  refine wpAny_Call_Name_kw (ld_glob I hg gC ?_ hdb)
  refine PySem.W.callWith_K0 (first := []) I.kIn kC ?_
  show wpAny _ _ (call (.ref (ga X.K C)) []) _ _ _
  obtain ⟨bm, N, nm, qn, bs, hdct, sn, sub, ab, col, dd, k0, k1, k2, k3, k5, mN, hC, hN, hni, T⟩ := exc_obj I.kIn q
  refine wpAny_call_exc_subT F T hC hN hni (fun h' a hm => ?_) (Nat.zero_le _)
  have hn : H a = none := I.hok.gone hm.new
  obtain ⟨t, ht, _, _⟩ := hm.there
  exact ⟨.ref a, upd H a (ExO (.ref (ga X.K C)) a), I.laidN hm.keeps hm.new hn (exO_ok ht ⟨rfl, rfl⟩ rfl rfl rfl (show 4 < 6 by decide)), rfl, h a hn⟩
/-- e.f, e an error as a value -/
def tXv (K : Frag) (n : Str) (te : TE) : TE := fun σ H Q => te σ H fun x H1 => ∃ (a D : Addr) (fs : List (Str × V)) (v : V), x = .ref a ∧ EvAt H1 a D fs ∧ XfC K D ∧ PySem.W.findIn K (.ref D) n = some none ∧ fs.lookup n = some v ∧ Q v H1
theorem pe_xv {te : TE} {n : Str} (he : PE X e te) (hb : attributeBase e n X.env (eval e X.env) = eval e X.env := by rfl) : PE X (.Attribute e n pos) (tXv X.K n te) := by
  refine ⟨fun pins s σ H Q I h => ?_⟩
  refine attr_of hb (thn (he.run pins s σ H _ I h) fun u s1 hh => ?_)
  obtain ⟨x, H1, I1, rx, a, D, fs, v, ex, ⟨dx, ea, ed⟩, T, hno, l, q⟩ := hh
  subst ex
  obtain rfl : u = Value.ref a := rx
  obtain ⟨t1, ho⟩ := exo_at I1.hok ea
  obtain ⟨mA, hns, hr⟩ := exd_at I1.hok ed
  obtain ⟨od, hod, hl⟩ := lookIn_ns hns
  obtain ⟨u, hu, ru⟩ := RelO.some_of (v := v) (o := mA n) (by rw [← l]; exact hr n)
  have J : PySem.W.InstAt s1.heap a _ D (some od) := ⟨ho, rfl, rfl, hod⟩
  exact HandSPX.exc_get I1.kIn J T.ga T.gg T.exC (PySem.W.findObj_own T.hdC hno rfl (by rw [hl, hu])) (handed_of ru) ⟨v, H1, I1.tok _, ru, q⟩
/-- what an error's object is, with or without fields -/
def Ev (H : Hp) (a C : Addr) : Prop := (∃ fs, EvAt H a C fs) ∨ EvN H a C
theorem ev_kit {pins : List (Addr × Obj)} {σ : L2.St} {H : Hp} {s : Shared} {a D : Addr} (I : L2.Inv X pins σ H s) (h : Ev H a D) (T : ExcC X.K D) : ∃ (P : Heap → Prop), PySem.W.KitX X.K (.ref a) (.ref D) P ∧ P s.heap := by
  rcases h with ⟨fs, dx, ea, ed⟩ | ea
  · obtain ⟨t1, ho⟩ := exo_at I.hok ea
    obtain ⟨mA, hns, hr⟩ := exd_at I.hok ed
    obtain ⟨od, hod, hl⟩ := lookIn_ns hns
    exact ⟨_, kitx_excD T, ⟨ho, rfl, rfl, hod⟩⟩
  · obtain ⟨⟨oe, vs, ho, hz, hd, _⟩, _, _⟩ := I.hok a _ ea
    have hcl : (PySem.W.clsIn X.K D).isSome = true := by
      obtain ⟨cd, hc, _⟩ := PySem.W.any_some T.hd
      rw [hc]
      rfl
    have J : PySem.W.InstAt s.heap a oe D none := ⟨ho, hz.1, by unfold PySem.W.notCls; rw [hd] <;> rfl, by rw [hz.2]; trivial⟩
    exact ⟨_, PySem.W.kitx_exc (ox := oe) (od := none) hcl T.hg T.hk T.hs T.ha T.hn T.ht T.hm, J⟩
/-- isinstance(e, c), e an error as a value -/
def rIsV (K : Frag) : List V → Hp → VK → Prop := fun xs H Q => ∃ (a D : Addr) (c : V) (cv : Value) (b : Bool), xs = [.ref a, c] ∧ Ev H a D ∧ ExcC K D ∧ ClsV c cv ∧ PySem.W.kitOne K (.ref D) cv = some b ∧ Q (.bl b) H
theorem call_isV : CallR X (.builtin "isinstance") (rIsV X.K) := by
  intro pins s σ H xs us Q I r h
  obtain ⟨a, D, c, cv, b, rfl, ev, T, hcv, e, q⟩ := h
  cases r with
  | cons rx rr =>
    cases rr with
    | cons rt rr =>
      cases rr
      cases rx
      have ec := hcv.eq rt
      subst ec
      obtain ⟨P, Z, hP⟩ := ev_kit I ev T
      exact PySem.W.kia_one Z I.kIn hP e (fun z => nomatch z) fun tk => ⟨.bl b, H, I.kept (t' := tk) fun _ _ z => z, rfl, q⟩
/-- .. of a tuple of classes -/
def rIsVT (K : Frag) : List V → Hp → VK → Prop := fun xs H Q => ∃ (a D t : Addr) (cs : List Addr) (b : Bool), xs = [.ref a, .ref t] ∧ Ev H a D ∧ ExcC K D ∧ H t = some (.tup (cs.map V.ref)) ∧ PySem.W.kitAny K (.ref D) (cs.map Value.ref) = some b ∧ Q (.bl b) H
theorem call_isVT : CallR X (.builtin "isinstance") (rIsVT X.K) := by
  intro pins s σ H xs us Q I r h
  obtain ⟨a, D, t, cs, b, rfl, ev, T, ht, e, q⟩ := h
  cases r with
  | cons rx rr =>
    cases rr with
    | cons rt rr =>
      cases rr
      cases rx
      cases rt
      obtain ⟨P, Z, hP⟩ := ev_kit I ev T
      obtain ⟨_, its, rv, ⟨c, dd, dt, sl⟩, hget, hc, n, hd⟩ := I.hok t _ ht
      dsimp only at hc hd
      subst hc hd
      rw [map_unref rv] at hget
      exact PySem.W.kia_tup Z I.kIn hP hget e (fun z => nomatch z) fun tk => ⟨.bl b, H, I.kept (t' := tk) fun _ _ z => z, rfl, q⟩
end
/-- data, the empty dict among it -/
inductive Dq (K : Frag) (H : Hp) : V → PyData → Prop
  | dp {v : V} {d : PyData} (h : Dp K H v d) (hd : d.hasDict = false) : Dq K H v d
  | ed {a : Addr} (h : H a = some (.dK [])) : Dq K H (.ref a) (.dict [])
inductive DqAll (K : Frag) (H : Hp) : List V → List PyData → Prop
  | nil : DqAll K H [] []
  | cons {v : V} {d : PyData} {vs : List V} {ds : List PyData} (h : Dq K H v d) (t : DqAll K H vs ds) : DqAll K H (v :: vs) (d :: ds)
section
open PySem.W PySem.Calls
variable {X : Cx} {pins : List (Addr × Obj)} {σ : L2.St} {H : Hp} {s : Shared}
theorem dq_reads (I : L2.Inv X pins σ H s) {v : V} {d : PyData} {u : Value} (h : Dq X.K H v d) (r : RelV v u) : ∃ as, Reads s.heap u d as ∧ (d.hasDict = true → sysModules ∉ as) := by
  cases h with
  | dp h hd =>
    obtain ⟨as, rd⟩ := Dp.reads I _ _ u h r
    exact ⟨as, rd, fun z => by rw [hd] at z; cases z⟩
  | @ed a h =>
    cases (show u = Value.ref a from r)
    obtain ⟨_, hsys, vs, kv, o, es, ep, ho, hx, hd, _, hp, _⟩ := I.hok a _ h
    have ev : vs = [] := by cases kv; rfl
    subst ev
    have ee : es = #[] := by
      have z : es.toList = [] := List.eq_nil_of_length_eq_zero hp.length
      exact Array.toList_eq_nil_iff.mp z
    subst ee
    refine ⟨[a] ++ [], Reads.dict ho hx.1 hd .nil .nil, fun _ hm => ?_⟩
    have : sysModules = a := by simpa using hm
    rw [this] at hsys
    simp at hsys
theorem dq_all (I : L2.Inv X pins σ H s) : ∀ {vs : List V} {ds : List PyData} {us : List Value}, DqAll X.K H vs ds → Vals vs us → PyData.showableAll ds = true → (∀ t ∈ PyData.shownAll ds, t.length ≤ sizeLine) →
    ∃ as bs, ReadsAll s.heap us ds as ∧ ReadAtMost s.heap (PyData.depthAll ds) bs ∧ ReprAllK X.prog X.w bs s.heap (PyData.depthAll ds) us (PyData.shownAll ds)
  | [], [], _, .nil, .nil, _, _ => ⟨[], [], .nil, (fun _ h => nomatch h), by simp only [PyData.shownAll]; exact .nil⟩
  | v :: vs, d :: ds, _, .cons h t, .cons r rr, hs, hz => by
    have hs' : d.showable = true ∧ PyData.showableAll ds = true := by simpa [PyData.showableAll] using hs
    obtain ⟨a1, rd, hsm⟩ := dq_reads I h r
    obtain ⟨b1, hb1, k1⟩ := ReprK.of_reads (prog := X.prog) (w := X.w) rd hs'.1 hsm (hz _ (by simp only [PyData.shownAll]; exact List.mem_cons_self ..))
    obtain ⟨a2, b2, rds, hb2, k2⟩ := dq_all I t rr hs'.2 (fun t ht => hz t (by simp only [PyData.shownAll]; exact List.mem_cons_of_mem _ ht))
    refine ⟨a1 ++ a2, b1 ++ b2, .cons rd rds, fun b hm => ?_, ?_⟩
    · simp only [PyData.depthAll]
      rcases List.mem_append.mp hm with hm | hm
      · obtain ⟨d', as', r', hd'⟩ := hb1 b hm
        exact ⟨d', as', r', Nat.le_trans hd' (Nat.le_max_left _ _)⟩
      · obtain ⟨d', as', r', hd'⟩ := hb2 b hm
        exact ⟨d', as', r', Nat.le_trans hd' (Nat.le_max_right _ _)⟩
    · simp only [PyData.depthAll, PyData.shownAll]
      refine .cons ((k1.more fun b hb => List.mem_append_left _ hb).level_le (Nat.le_max_left _ _)) ?_
      have : ∀ {us : List Value} {ts : List Str}, ReprAllK X.prog X.w b2 s.heap (PyData.depthAll ds) us ts → ReprAllK X.prog X.w (b1 ++ b2) s.heap (max d.depth (PyData.depthAll ds)) us ts := fun h => by
        induction h with
        | nil => exact .nil
        | cons k _ ih => exact .cons ((k.more fun b hb => List.mem_append_right _ hb).level_le (Nat.le_max_right _ _)) ih
      exact this k2
end
/-- repr of a list of data, empty dicts among it -/
def rReprL (K : Frag) : List V → Hp → VK → Prop := fun xs H Q => ∃ (a : Addr) (v : V) (vs : List V) (ds : List PyData), xs = [.ref a] ∧ H a = some (.lst (v :: vs)) ∧ DqAll K H (v :: vs) ds ∧ PyData.showableAll ds = true ∧ PyData.depthAll ds ≤ 60 ∧ (listText (PyData.shownAll ds)).length ≤ sizeLine ∧ Q (.str (listText (PyData.shownAll ds))) H
theorem call_reprL {X : Cx} (hg : X.A.guards = some []) (hu : X.A.units + 99 < cLine) : CallR X (.builtin "repr") (rReprL X.K) := by
  intro pins s σ H xs us Q I r h
  obtain ⟨a, v, vs, ds, rfl, ha, hd, hs, hdep, hz, q⟩ := h
  obtain ⟨u, rfl, ru⟩ := r.one
  cases (show u = Value.ref a from ru)
  obtain ⟨_, its, n, rv, ho⟩ := I.hok a _ ha
  obtain ⟨as, bs, rds, hb, hk⟩ := dq_all I hd rv hs (fun t ht => Nat.le_trans (listText_mem_le ht) hz)
  cases rv with
  | cons r0 rr =>
    rename_i u0 us0
    have rd : Reads s.heap (.ref a) (.list ds) _ := .list ho rfl rfl (by simpa using rds)
    have hna : a ∉ bs := not_mem_of_deeper rd (by simp only [PyData.depth]; omega) hb
    refine call_repr_slot (by omega) (T := "list") ⟨_, ho, rfl⟩ F.slot_list_repr.toG (call_list_reprK (A := X.A.in1) ho rfl rfl hna (by simpa using hk.length_eq) (fun i y e => hk.item i y (by simpa using e)) hg (fun b _ => Clear.nil b) (by show X.A.units + 1 + (PyData.depthAll ds + 1) < cLine; omega) (fun _ _ z => z) (fun h' t tk k => ⟨_, _, rfl, ?_⟩) hz)
    exact ⟨.str _, H, I.kept (t' := tk) k, ⟨t, rfl⟩, q⟩
/-- what isinstance tells of an error's class and five built-in ones -/
def base5 : List String := ["ValueError", "LookupError", "RuntimeError", "OverflowError", "KeyError"]
def basesOf (K : Frag) (C : Addr) : List (Option Bool) := base5.map fun T => PySem.W.kitOne K (.ref C) (.type T)
section
variable {K : Frag} {C : Addr} {f g : Str} {v w : V} {H : Hp} {Q : VK} {ta : TA} {σ : L2.St}
/-- C(v) as a value -/
theorem mkV1 (ht : ∀ Q' : List V → Hp → Prop, Q' [v] H → ta σ H Q') (q : ∀ G a, Same H G → H a = none → EvAt G a C [(f, v)] → Q (.ref a) G) : tMkV C (spX1 C f) ta σ H Q := by
  refine ht _ ⟨by simp, fun a na => ⟨a, v, rfl, upd_same, fun dx nd ne => ⟨rfl, ?_⟩⟩⟩
  have nd' : H dx = none := by rw [upd_ne ne] at nd; exact nd
  refine q _ a (fun b o h => ?_) na ⟨dx, upd_same, by rw [upd_ne ne, upd_same]⟩
  rw [upd_ne (ne_of_none h na), upd_ne (ne_of_none h nd'), upd_ne (ne_of_none h na)]
  exact h
theorem mkV2 (ht : ∀ Q' : List V → Hp → Prop, Q' [v, w] H → ta σ H Q') (q : ∀ G a, Same H G → H a = none → EvAt G a C [(g, w), (f, v)] → Q (.ref a) G) : tMkV C (spX2 C f g) ta σ H Q := by
  refine ht _ ⟨by simp, fun a na => ⟨a, v, w, rfl, upd_same, fun dx nd ne => ⟨rfl, ?_⟩⟩⟩
  have nd' : H dx = none := by rw [upd_ne ne] at nd; exact nd
  refine q _ a (fun b o h => ?_) na ⟨dx, by rw [upd_ne ne.symm, upd_same], upd_same⟩
  rw [upd_ne (ne_of_none h nd'), upd_ne (ne_of_none h na), upd_ne (ne_of_none h nd'), upd_ne (ne_of_none h na)]
  exact h
end
end Ah

/-! sorted(xs, key=lambda x: ..), the keys points -/
namespace Ah
open PySem PySem.Spec PySem.Calls PyProof.Rows L2 He LamX
/-- a lambda with one parameter, called -/
theorem lam_run1 {P : Program} {w : World} {K : Frag} {mg : Str → Option Value} {base : Heap} {A : Around} {outer : List Env} {s : Shared} {H : Hp} {k : Nat} {f c' : Addr} {q x : Str} {params : Arguments} {body : Expr} {scope : Scope} {pm ctv u : Value} {v : V} {Q : VK} {N : List Str} {t : TE}
    (e0 : Env0 P w K mg base A outer s H) (hr : Rm (k + 1) A) (S : FnScope N [x] scope) (hf : s.heap.get? f = some (PySem.W.kla_obj "<lambda>" q params body scope [] pm c' ctv)) (hc : H c' = some (CodeO c' q))
    (hbind : bindArgs (PySem.W.kla_fn "<lambda>" q params body scope [] pm (.ref c') ctv) ⟨[u], []⟩ = pure [(x, u)]) (r : RelV v u)
    (hbody : Rm k (A.deeper (envOfC q scope s.heap.objs.size f (.ref c'))) → PE (cxOf L2.CX0 P w K mg base N q scope f (.ref c') A outer s H L2.E0) body t) (h : t (L2.start N [v]) H Q) :
    codeAny (model P w) A (.call (.ref f) ⟨[u], []⟩) (CR L2.CX0 outer P w H s Q L2.E0) s := by
  have lim : s.heap.NoLimit := e0.mod.nolimit.keeps fun b o e => (e0.bs b o e).1
  obtain ⟨⟨oc, vs, t', hoc, hdc, hvc⟩, _, _⟩ := e0.hok c' _ hc
  have hkind : ∀ y ∈ [(x, u)], scope.names.lookup y.1 = some .local ∨ (scope.names.lookup y.1 = some .cell ∧ ((cellsFrom (s.heap.objs.size + 1) scope.names []).lookup y.1).isSome = true) := fun y hy => by
    rw [List.mem_singleton] at hy
    subst hy
    rcases S.par x (by simp) with q | q
    · exact .inl q
    · exact .inr ⟨q, PySem.W.cellsFrom_some _ _ _ (.inl q)⟩
  refine PySem.W.kla_callFunE hr.r.depth hf rfl S.co S.gen rfl ⟨c', oc, vs, t', rfl, hoc, hdc, hvc⟩ ?_
  rw [hbind]
  refine wpAny_pure (wpAny_newFunctionEnv_cells S.kind hkind fun env he s1 x => ?_)
  subst he
  refine ⟨lim.keeps x.toInCall.keep, ?_⟩
  have I : Inv (cxOf L2.CX0 P w K mg base N q scope f (.ref c') A outer s H L2.E0) [] (L2.start N [v]) H s1 := inv_start S hr.r.hd e0 rfl (.cons r .nil) x
  refine PySem.W.kla_codeExpr (wpAny_mono ((hbody ⟨hr.r.deeper _, hr.g⟩).run [] _ _ H Q I h) (fun v s' hq => ?_) fun e s' hq => hq)
  obtain ⟨w', H', J', rv, q⟩ := hq
  exact ⟨w', H', J'.os, J'.bare, J'.base, J'.hok, rv, q⟩

/-! ### the keys' loop, told by Inv -/
/-- a heap that lacks k -/
def lacks (h : Heap) (k : Addr) : Heap := h.update k fun o => { o with data := .freed }
theorem lacks_at (h : Heap) (k : Addr) : (lacks h k).get? k = none := by
  obtain ⟨objs, l⟩ := h
  unfold lacks Heap.update Heap.get?
  simp only [Array.getElem?_modify]
  cases e : objs[k]? with
  | none => simp
  | some o => simp
theorem lacks_old {h : Heap} {k b : Addr} {o : Obj} (e : (lacks h k).get? b = some o) : b ≠ k ∧ h.get? b = some o := by
  have n : b ≠ k := fun z => by
    rw [z, lacks_at] at e
    cases e
  exact ⟨n, ((Heap.SameBut.update h k fun o => { o with data := .freed }).2 b n).symm.trans e⟩
theorem lacks_new {h : Heap} {k b : Addr} {o : Obj} (n : b ≠ k) (e : h.get? b = some o) : (lacks h k).get? b = some o := ((Heap.SameBut.update h k fun o => { o with data := .freed }).2 b n).trans e
section
variable {X : Cx} {pins : List (Addr × Obj)} {σ : L2.St} {H : Hp} {s : Shared}
/-- two records of ours have turned, the first one is known from now on -/
theorem inv_adopt {a k : Addr} {xs : List V} {its : List Value} {n : Nat} {h' : Heap} {t' : Nat} (I : L2.Inv X pins σ H s) (fa : FpOk X pins H a) (fk : FpOk X pins H k) (kp : ∀ b o, b ≠ a → b ≠ k → s.heap.get? b = some o → h'.get? b = some o)
    (hz : xs.length ≤ sizeLine) (r : Vals xs its) (ha : h'.get? a = some (seqObj "list" its.toArray n)) : L2.Inv X pins σ (upd H a (.lst xs)) { s with heap := h', toks := t' } := by
  have nit : ∀ b u, H b = some u → b ≠ a ∧ b ≠ k := fun b u e => ⟨ne_of_none e fa.1, ne_of_none e fk.1⟩
  have n2 : ∀ b, b ∉ [a, k] → b ≠ a ∧ b ≠ k := fun b hb => ⟨fun z => hb (by simp [z]), fun z => hb (by simp [z])⟩
  refine I.step (g' := s.gens) (d' := s.drawn) (ch := [a, k]) (fun b hb => ?_) (fun b o _ _ hc e _ => kp b o (n2 b hc).1 (n2 b hc).2 e) (fun b o _ _ hc e _ => ⟨o.slots, kp b o (n2 b hc).1 (n2 b hc).2 e⟩) (fun b o hc _ e => by rw [upd_ne (n2 b hc).1]; exact e)
    (fun b o hc e => ⟨o, kp b o (n2 b hc).1 (n2 b hc).2 e⟩) (fun b xs e => by rw [upd_ne (nit b _ e).1]; exact e) (fun b o u e => by rw [upd_ne (nit b _ e).1]; exact e) (fun b ps e => ⟨#[], by rw [upd_ne (nit b _ e).1, e]; simp⟩) (fun m hm => ?_) (fun b u e => ?_) I.bare
  · rcases List.mem_cons.mp hb with rfl | hb
    · exact ⟨fa.2.2.2.1, fa.2.1, fa.2.2.2.2.1, fa.2.2.2.2.2⟩
    · rw [List.mem_singleton] at hb
      subst hb
      exact ⟨fk.2.2.2.1, fk.2.1, fk.2.2.2.2.1, fk.2.2.2.2.2⟩
  · obtain ⟨o, es, ep, ho, r⟩ := hm
    exact ⟨o, es, ep, kp _ o (Ne.symm fa.2.1) (Ne.symm fk.2.1) ho, r⟩
  · by_cases hb : b = a
    · subst hb
      rw [upd_same] at e
      cases e
      exact ⟨hz, its, n, r, ha⟩
    · rw [upd_ne hb] at e
      refine (I.hok b u e).stay (fun c v hc q => ?_) (fun c q => by rw [upd_ne (nit c _ q).1]; exact q) fun c xs q => by rw [upd_ne (nit c _ q).1]; exact q
      rcases hc with z | z
      · rw [z] at q ⊢
        exact kp b v (nit b u e).1 (nit b u e).2 q
      · exact kp c v (nit c _ z).1 (nit c _ z).2 q
open PySem.W in
theorem each_zip : ∀ (as : List Addr) (ps : List Pt), as.length = ps.length → EachIs (fun (v : Value) (x : Addr × Pt) => v = Value.ref x.1) (as.map Value.ref) (as.zip ps)
  | [], _, _ => .nil
  | _ :: _, [], h => nomatch h
  | _ :: as, _ :: ps, h => .cons rfl (each_zip as ps (by simpa using h))
open PySem.W in
theorem each_map_eq {out : List Value} {bs : List (Addr × Pt)} (h : EachIs (fun (v : Value) (x : Addr × Pt) => v = Value.ref x.1) out bs) : out = (bs.map fun x => x.1).map Value.ref := by
  induction h with
  | nil => rfl
  | cons h _ ih => rw [h, ih]; rfl
open PySem.W in
theorem keys_rest {a kS f : Addr} {as : List Addr} {ps : List Pt} {e1 : Nat} {P : PySem.Fin → Shared → Prop} {E : Value → Shared → Prop} (I : L2.Inv X pins σ H s) (fa : FpOk X pins H a) (fk : FpOk X pins H kS) (hka : kS ≠ a)
    (nk : s.heap.get? kS = some (seqObj "list" #[] 0)) (na : s.heap.get? a = some (seqObj "list" #[] e1)) (hlen : as.length = ps.length) (hZ : as.length ≤ sizeLine) (hu : X.A.units + 3 < cLine)
    (turn : ∀ (pn : List (Addr × Obj)) (s : Shared) (b : Addr) (p : Pt), (b, p) ∈ as.zip ps → L2.Inv X (pins ++ pn) σ H s → wpAny (model X.prog X.w) X.A.in1.in1 (call (.ref f) [.ref b]) (fun u s' => ∃ k, u = .ref k ∧ PtAt H k p ∧ L2.Inv X (pins ++ pn) σ H s') (fun _ _ => False) s)
    (h : ∀ (s' : Shared) (bs : List (Addr × Pt)), L2.Inv X pins σ (upd H a (.lst (bs.map fun x => V.ref x.1))) s' → bs.Perm (as.zip ps) → bs.Pairwise (fun x y => ptLt y.2 x.2 = false) → P (.done (.ret .none)) s') :
    wpAny (model X.prog X.w) X.A.in1.in1 (ksk_rest a (.ref f) false (as.map Value.ref).toArray e1 (.ref kS)) P E s := by
  unfold ksk_rest
  refine wpAny_bind (wpAny_rule ?_)
  rw [List.forIn_toArray]
  refine wpAny_bind (ksk_fold (fun i s' => ∃ (kA : List Addr) (e : Nat), L2.Inv X pins σ H s' ∧ s'.heap.get? kS = some (seqObj "list" (kA.map Value.ref).toArray e) ∧ s'.heap.get? a = some (seqObj "list" #[] e1) ∧ PtsAt H kA (ps.take i)) (as.map Value.ref) 0 s
    ⟨[], 0, I, nk, na, by rw [List.take_zero]; exact .nil⟩ ?step ?done)
  case step =>
    rintro j x s' hx ⟨kA, e, I', nk', na', hk⟩
    simp only [Nat.zero_add] at hk ⊢
    obtain ⟨b, eb, rfl⟩ : ∃ b, as[j]? = some b ∧ x = Value.ref b := by
      rw [List.getElem?_map] at hx
      cases q : as[j]? with
      | none =>
        rw [q] at hx
        cases hx
      | some b =>
        rw [q] at hx
        cases hx
        exact ⟨b, rfl, rfl⟩
    have hj : j < as.length := (List.getElem?_eq_some_iff.mp eb).1
    obtain ⟨p, ep⟩ : ∃ p, ps[j]? = some p := ⟨_, List.getElem?_eq_getElem (by omega)⟩
    have hz : (b, p) ∈ as.zip ps := List.mem_of_getElem? (i := j) (by rw [List.getElem?_zip_eq_some]; exact ⟨eb, ep⟩)
    have hkl := hk.len
    have hps : (ps.take j).length ≤ ps.length := by rw [List.length_take]; omega
    have I2 : L2.Inv X (pins ++ [(kS, seqObj "list" (kA.map Value.ref).toArray e), (a, seqObj "list" #[] e1)]) σ H s' := I'.pins_of fun p hp => (List.mem_append.mp hp).elim (fun z => I'.pin p (List.mem_append_right _ z)) fun z => by
      rcases List.mem_cons.mp z with rfl | z
      · exact ⟨nk', fk.1, fk.2.1, fk.2.2.1, fun v z => by cases z⟩
      · rw [List.mem_singleton] at z
        subst z
        exact ⟨na', fa.1, fa.2.1, fa.2.2.1, fun v z => by cases z⟩
    refine wpAny_bind (wpAny_attempt (wpAny_mono (turn _ s' b p hz I2) (fun v s'' he => ?_) fun _ _ hF => hF.elim))
    obtain ⟨k, rfl, hkp, I3⟩ := he
    try dsimp only
    have nk3 := (I3.pin (kS, seqObj "list" (kA.map Value.ref).toArray e) (by simp)).1
    have na3 := (I3.pin (a, seqObj "list" #[] e1) (by simp)).1
    have s1 := Heap.SameBut.update s''.heap kS (Obj.mapSeq (·.push (Value.ref k)))
    obtain ⟨c2, hc2⟩ : ∃ c2, (s''.heap.update kS (Obj.mapSeq (·.push (Value.ref k)))).get? kS = some (seqObj "list" ((kA.map Value.ref).toArray.push (Value.ref k)) c2) := ⟨_, get?_update_seq nk3 (·.push (Value.ref k))⟩
    have sz : (kA.map Value.ref).toArray.size ≤ sizeLine := by
      rw [List.size_toArray, List.length_map]
      omega
    refine wpAny_bind (listUpdate_at nk3 rfl ?_ sz (by rw [Array.size_push]; omega))
    refine wpAny_pure ⟨rfl, kA ++ [k], c2, (I3.unpinned).turned (it := kS) (t' := s''.toks) (fun b o hb e => (s1.2 b hb).trans e) fk.1 fk.2.1 fk.2.2.2.1 fk.2.2.2.2.1 fk.2.2.2.2.2, ?_, (s1.2 a hka.symm).trans na3, ?_⟩
    · have ea : ((kA ++ [k]).map Value.ref).toArray = (kA.map Value.ref).toArray.push (Value.ref k) := by simp
      rw [ea]
      exact hc2
    · have ek : ps.take (j + 1) = ps.take j ++ [p] := by rw [List.take_add_one, ep]; rfl
      rw [ek]
      exact hk.app (.cons hkp .nil)
  case done =>
    rintro s' ⟨kA, e, I', nk', na', hk⟩
    rw [Nat.zero_add, List.length_map, hlen, List.take_length] at hk
    have hkl := hk.len
    refine wpAny_bind (listItems_at nk' rfl ?_)
    have hr : EachIs (fun (v : Value) (d : PyData) => ∃ as, Reads s'.heap v d as) (kA.map Value.ref) (ps.map ptD) := by
      clear nk' hkl hlen turn h
      induction hk with
      | nil => exact .nil
      | cons h _ ih => exact .cons (Dp.reads I' _ _ _ h.dp rfl) ih
    have hal : AllAlike (ps.map ptD) := AllAlike.of fun p q => rfl
    have hsk : Sortable (ps.map ptD) := Sortable.tuples fun p => ⟨_, _, rfl⟩
    have hdu : ∀ d, d ∈ ps.map ptD → X.A.in1.in1.units + d.depth < cLine := fun d hd => by
      obtain ⟨p, _, rfl⟩ := List.mem_map.mp hd
      have : (ptD p).depth = 1 := rfl
      show X.A.units + 1 + 1 + _ < _
      omega
    have kp : KeepsBut a (lacks s'.heap kS) s'.heap := fun b o _ e => (lacks_old e).2
    have S : SortsAt X.prog X.w X.A.in1.in1 s' (dataKind s'.heap (ps.map ptD)) (kA.map Value.ref) := SortsAt.data hr hal hsk hdu
    refine keyH_end (κ := dataKind s'.heap (ps.map ptD)) (h₁ := lacks s'.heap kS) (vs := as.map Value.ref) (keys := (kA.map Value.ref).toArray) kp (lacks_at _ _) nk' na' hka (by simpa using S) (by simp; omega) (by simpa using hZ) fun h3 tk3 c k3 n3 => ?_
    have ko : KeyedOut false ((as.zip ps).map fun x => ptD x.2) (as.map Value.ref) (sortVals (dataKind s'.heap (ps.map ptD)) false (kA.map Value.ref).toArray.toList (as.map Value.ref)) := by
      have ez : (as.zip ps).map (fun x => ptD x.2) = ps.map ptD := by
        rw [show (fun x : Addr × Pt => ptD x.2) = ptD ∘ Prod.snd from rfl, ← List.map_map, List.map_snd_zip (by omega)]
      rw [ez]
      exact ⟨s'.heap, kA.map Value.ref, hal, by simp, hr⟩
    have eR := each_zip as ps hlen
    have each := keyedOut_each (fun x : Addr × Pt => ptD x.2) ko eR
    have pm : ((as.zip ps).mergeSort (dataLe false fun x : Addr × Pt => ptD x.2)).Perm (as.zip ps) := List.mergeSort_perm _ _
    have pw : ((as.zip ps).mergeSort (dataLe false fun x : Addr × Pt => ptD x.2)).Pairwise (fun x y => ptLt y.2 x.2 = false) := by
      have z := List.pairwise_mergeSort (le := dataLe false fun x : Addr × Pt => ptD x.2) (fun x y z h1 h2 => ?_) (fun x y => ?_) (as.zip ps)
      · refine z.imp fun {x y} h => ?_
        have h' : (!ptLt y.2 x.2) = true := h
        simpa using h'
      · have h1' : (!ptLt y.2 x.2) = true := h1
        have h2' : (!ptLt z.2 y.2) = true := h2
        show (!ptLt z.2 x.2) = true
        rw [Bool.not_eq_true'] at h1' h2' ⊢
        exact ptLt_le h1' h2'
      · show ((!ptLt y.2 x.2) || (!ptLt x.2 y.2)) = true
        cases e : ptLt y.2 x.2 with
        | false => rfl
        | true =>
          rw [ptLt_asymm e]
          rfl
    generalize (as.zip ps).mergeSort (dataLe false fun x : Addr × Pt => ptD x.2) = bs at each pm pw
    have eo := each_map_eq each
    have em : (bs.map fun x => V.ref x.1) = (bs.map fun x => x.1).map V.ref := by rw [List.map_map]; rfl
    refine h _ bs ?_ pm pw
    rw [em]
    refine inv_adopt (k := kS) I' fa fk (fun b o h1 h2 e => k3 b o h1 (lacks_new h2 e)) ?_ (vals_refs _) (by rw [← eo]; exact n3)
    rw [List.length_map, List.length_map, pm.length_eq, List.length_zip]
    omega
open PySem.W in
theorem sort_keys {l f : Addr} {as : List Addr} {ps : List Pt} {Q : VK} (I : L2.Inv X pins σ H s) (hu : X.A.units + 3 < cLine) (hl : SqL X.K H l (as.map V.ref)) (hlen : as.length = ps.length)
    (turn : ∀ (pn : List (Addr × Obj)) (s : Shared) (b : Addr) (p : Pt), (b, p) ∈ as.zip ps → L2.Inv X (pins ++ pn) σ H s → wpAny (model X.prog X.w) X.A.in1.in1 (call (.ref f) [.ref b]) (fun u s' => ∃ k, u = .ref k ∧ PtAt H k p ∧ L2.Inv X (pins ++ pn) σ H s') (fun _ _ => False) s)
    (q : ∀ (r : Addr) (bs : List (Addr × Pt)), H r = none → bs.Perm (as.zip ps) → bs.Pairwise (fun x y => ptLt y.2 x.2 = false) → Q (.ref r) (upd H r (.lst (bs.map fun x => V.ref x.1)))) :
    wpAny (model X.prog X.w) X.A (call (.builtin "sorted") [.ref l] [(Str.ofString "key", .ref f)]) (EP X pins σ Q) X.xe s := by
  obtain ⟨its, rv, hpl, hz⟩ := I.list hl
  have ei := map_unref rv
  subst ei
  rw [List.length_map] at hz
  have sz : (as.map Value.ref).toArray.size ≤ sizeLine := by simpa using hz
  refine sorted_of_sort hpl.isList (by simpa using hz) (ksk_s1 _ _) (fun x => ksk_l1 _ _) fun E' => ?_
  rw [ksk_t1]
  have ho := copyHeap_at s.heap (as.map Value.ref)
  obtain ⟨e1, ho1⟩ : ∃ e1, ((copyHeap s.heap (as.map Value.ref)).update (s.heap.objs.size + 1) (Obj.mapSeq fun _ => (#[] : Array Value))).get? (s.heap.objs.size + 1) = some (seqObj "list" #[] e1) := ⟨_, get?_update_seq ho fun _ => #[]⟩
  have ha : s.heap.objs.size + 1 < (copyHeap s.heap (as.map Value.ref)).objs.size := Heap.lt_size ho
  have hkS : (((copyHeap s.heap (as.map Value.ref)).update (s.heap.objs.size + 1) (Obj.mapSeq fun _ => (#[] : Array Value))).push (seqObj "tuple" (as.map Value.ref).toArray 0)).objs.size = (copyHeap s.heap (as.map Value.ref)).objs.size + 1 := by rw [size_push', Heap.size_update]
  unfold ksk_tree
  refine wpAny_bind (listItems_at ho rfl ?_)
  refine wpAny_bind (listUpdate_at ho rfl ?_ sz (Nat.zero_le _))
  refine wpAny_bind (seqEpoch_at ho1 rfl ?_)
  refine wpAny_bind (wpAny_newTuple ?_ (by show (as.map Value.ref).length ≤ _; simpa using hz))
  refine wpAny_bind (wpAny_newList ?_ (Nat.zero_le _))
  refine wpAny_holding ?_
  have le2 : s.heap.objs.size ≤ (copyHeap s.heap (as.map Value.ref)).objs.size + 1 := by omega
  have kp : ∀ b o, s.heap.get? b = some o → (sortingHeap (copyHeap s.heap (as.map Value.ref)) (s.heap.objs.size + 1) (as.map Value.ref)).get? b = some o := fun b o e =>
    sortingHeap_old (Nat.ne_of_lt (Nat.lt_succ_of_lt (Heap.lt_size e))) (copyHeap_old e)
  have I5 := I.kept (t' := s.toks) kp
  refine keys_rest (as := as) (ps := ps) I5 (I.fpOk (Nat.le_succ _) (I.hok.fresh (Nat.le_succ _))) (I.fpOk (by rw [hkS]; exact le2) (I.hok.fresh (by rw [hkS]; exact le2))) (Nat.ne_of_gt (by rw [hkS]; exact Nat.lt_succ_of_lt ha)) (Heap.get?_push_size _ rfl) (Heap.get?_push_of_some _ (Heap.get?_push_of_some _ ho1)) hlen hz hu turn fun s' bs J pm pw => ⟨rfl, .ref (s.heap.objs.size + 1), _, J, rfl, q _ bs (I.hok.fresh (Nat.le_succ _)) pm pw⟩
end
/-- sorted(e, key=lambda x: ..): t reads the lambda's body -/
def tSortK (K : Frag) (T : List (Addr × Str)) (te : TA) (N : List Str) (t : TE) : TE := fun σ H Q => te σ H fun vs H1 => Tabs T H1 ∧ ∀ H2, ExtN H1 H2 → Tabs T H2 →
  ∃ (l : Addr) (as : List Addr) (ps : List Pt), vs = [.ref l] ∧ SqL K H2 l (as.map V.ref) ∧ as.length = ps.length ∧ (∀ b p, (b, p) ∈ as.zip ps → t (L2.start N [.ref b]) H2 fun v H3 => H3 = H2 ∧ ∃ k, v = .ref k ∧ PtAt H2 k p) ∧
    ∀ (r : Addr) (bs : List (Addr × Pt)), H2 r = none → bs.Perm (as.zip ps) → bs.Pairwise (fun x y => ptLt y.2 x.2 = false) → Q (.ref r) (upd H2 r (.lst (bs.map fun x => V.ref x.1)))
theorem clo_nil {cells : List (Str × Addr)} : ∀ {ns : List (Str × NameKind)}, (∀ y ∈ ns, y.2 ≠ .free) → cloFrom cells ns [] = [] := by
  intro ns h
  induction ns with
  | nil => rfl
  | cons y ns ih =>
    have h1 := h y (List.mem_cons_self ..)
    obtain ⟨a, k⟩ := y
    have h2 := ih fun z hz => h z (List.mem_cons_of_mem _ hz)
    cases k <;> first | exact h2 | exact absurd rfl h1
section
variable {X : Cx}
theorem pe_sortK {T : List (Addr × Str)} {c P : Addr} {k j : Nat} {x : Str} {e : Expr} {params : Arguments} {body : Expr} {scope : Scope} {te : TA} {t : TE} {N : List Str} {p lpos kpos pos : Pos}
    (hs : X.stack = X.env :: X.outer) (hf0 : X.env.frame = some X.env.locals) (hm : X.mg "sorted" = none) (he : PA X [e] te)
    (TB : TabB X.base X.mg c P) (hcode : X.env.code = .ref c) (hmT : (P, X.env.qual ++ "<lambda>") ∈ T) (hu : ∀ p ∈ T, p.1 = P → p.2 = X.env.qual ++ "<lambda>") (hr : Rm j X.A) (S : FnScope N [x] scope) (hnf : ∀ y ∈ scope.names, y.2 ≠ .free)
    (hbody : ∀ (A : Around) (outer : List Env) (s : Shared) (H : Hp) (f c' : Addr), Rm k (A.deeper (envOfC (X.env.qual ++ "<lambda>") scope s.heap.objs.size f (.ref c'))) → PE (cxOf L2.CX0 X.prog X.w X.K X.mg X.base N (X.env.qual ++ "<lambda>") scope f (.ref c') A outer s H L2.E0) body t)
    (hk : k + 3 ≤ j := by decide) (hg : Gl X "sorted" := by rfl) (hdef : defaultsOf params X.env = ([], []) := by rfl)
    (hbind : ∀ (q : Str) (pm cv ctv u : Value), bindArgs (PySem.W.kla_fn "<lambda>" q params body scope [] pm cv ctv) ⟨[u], []⟩ = pure [(x, u)] := by intro _ _ _ _ _; rfl)
    (hbk : backTo pos (starEach [e] X.env) = (false, eval e X.env) :: backTo pos (starEach [] X.env) := by rfl) (hpl : (backTo pos (starEach [e] X.env)).any (·.1) = false := by rfl) :
    PE X (.Call (.Name "sorted" p) [e] [⟨some "key", .Lambda params body scope lpos, kpos⟩] pos) (tSortK X.K T te N t) := by
  refine ⟨fun pins s σ H Q I h => ?_⟩
  refine wpAny_Call_Name_kw (ld_blt I hg hm (show bootBuiltins "sorted" = some (.builtin "sorted") by decide +kernel) ?_ (by decide) (by decide))
  refine PyProof.Rows.callWith_kw (thn (he.run pos pins s σ H _ I h) fun us s1 ⟨vs, H1, I1, r1, q1⟩ => ?_) hbk hpl
  obtain ⟨hT, q1⟩ := q1
  show wpAny _ _ (evalAll ((do let v ← eval (.Lambda params body scope lpos) X.env; standAt pos; pure v) :: [])) _ _ s1
  refine wpAny_evalAll_cons (wpAny_bind (lam_make2 I1 TB hcode hmT hu hT hdef (fun y hy e => absurd e (hnf y hy)) fun f c' pm ctv H2 s2 I2 eN T2 hf hfn hfr hco => wpAny_bind (wpAny_standAt (wpAny_pure (wpAny_evalAll_nil ?_)))))
  obtain ⟨l, as, ps, rfl, hl, hlen, hkey, q⟩ := q1 H2 eN T2
  obtain ⟨u, rfl, ru⟩ := r1.one
  obtain rfl : u = Value.ref l := ru
  rw [clo_nil hnf] at hf
  have nfr : f ≠ X.env.locals ∧ f ∉ X.fs := by
    have e : frs X.stack = X.env.locals :: X.fs := by
      rw [hs]
      show List.filterMap _ _ = _
      rw [List.filterMap_cons, hf0]
      rfl
    rw [e] at hfr
    exact ⟨fun z => hfr (by simp [z]), fun z => hfr (List.mem_cons_of_mem _ z)⟩
  have I3 : L2.Inv X (pins ++ [(f, PySem.W.kla_obj "<lambda>" (X.env.qual ++ "<lambda>") params body scope [] pm c' ctv)]) σ H2 s2 := I2.pins_of fun p hp => (List.mem_append.mp hp).elim (fun z => I2.pin p (List.mem_append_right _ z)) fun z => by
    rw [List.mem_singleton] at z
    subst z
    exact ⟨hf, hfn, nfr.1, nfr.2, fun v z => by cases z⟩
  have go := sort_keys (Q := Q) (f := f) I3 (by have := hr.r.un; omega) hl hlen (fun pn s b p hm J => ?_) q
  · refine wpAny_mono go (fun u s' hq => ?_) fun _ _ e => e
    obtain ⟨v, H', J, rv, hq⟩ := hq
    exact ⟨v, H', J.unpinned, rv, hq⟩
  · have hf' := (J.pin (f, PySem.W.kla_obj "<lambda>" (X.env.qual ++ "<lambda>") params body scope [] pm c' ctv) (by simp)).1
    have hr2 : Rm (k + 1) X.A.in1.in1 := (Rm.in1 (k := k + 1) (Rm.in1 (k := k + 2) (hr.mono (by omega))))
    have rc := lam_run1 (A := X.A.in1.in1) (v := .ref b) (Q := fun v H3 => H3 = H2 ∧ ∃ k, v = .ref k ∧ PtAt H2 k p) J.env0.in1.in1 hr2 S hf' hco (hbind _ _ _ _ (.ref b)) rfl (fun hr' => hbody _ _ _ _ _ _ hr') (hkey b p hm)
    refine wpAny_call (codeAny_mono rc fun r s' hq => ?_)
    match r, hq with
    | .ok (.ret u), hq =>
      obtain ⟨v, H', J', rv, rfl, kk, rfl, hp⟩ := J.after hq
      exact ⟨kk, rv, hp, J'⟩
end
end Ah

/-! a head over many classes: what the module's names reach is taken step by step, once; further looks at the state behind the top, each by a run of its own -/
namespace Ah
open PySem PySem.Spec PyProof.Rows L2 He HandSHeadRun
/-- a list, written out before it is used -/
def frL {α : Type} : List Nat → (List Nat → α) → α
  | [], k => k []
  | a :: r, k => frNat a fun a => frL r fun r => k (a :: r)
theorem frL_eq {α : Type} : ∀ (l : List Nat) (k : List Nat → α), frL l k = k l
  | [], _ => rfl
  | a :: r, k => by
    show (frNat a fun a => frL r fun r => k (a :: r)) = _
    rw [frNat_eq, frL_eq]
def frF {α : Type} : Frag → (Frag → α) → α
  | [], k => k []
  | (a, ⟨c, d, t, l⟩) :: r, k => frNat a fun a => frF r fun r => k ((a, ⟨c, d, t, l⟩) :: r)
theorem frF_eq {α : Type} : ∀ (l : Frag) (k : Frag → α), frF l k = k l
  | [], _ => rfl
  | (a, ⟨c, d, t, l⟩) :: r, k => by
    show (frNat a fun a => frF r fun r => k ((a, ⟨c, d, t, l⟩) :: r)) = _
    rw [frNat_eq, frF_eq]
/-- what a namespace holds -/
def nsV (g : Addr → Option Obj) (a : Addr) : List Addr := match g a with
  | some ⟨_, _, .dict es _, _⟩ => es.toList.flatMap fun e => refV e.val
  | _ => []
/-- a class's namespace; a def's code and defaults; what else an object's fields name -/
def stV (g : Addr → Option Obj) (a : Addr) : List Addr := match g a with
  | some ⟨_, _, .cls cd, _⟩ => [cd.ns]
  | some ⟨_, _, .func fd, _⟩ => refV fd.code ++ (refV fd.defaults ++ refV fd.kwdefaults)
  | _ => []
def fdV (g : Addr → Option Obj) (a : Addr) : List Addr := match g a with
  | some ⟨.type "property", _, .fields vs, _⟩ => vs.toList.flatMap refV
  | some ⟨_, _, .func fd, _⟩ => refV fd.code ++ (refV fd.defaults ++ refV fd.kwdefaults)
  | _ => []
def asS {α : Type} (g : Addr → Option Obj) (k : List Addr → α) : α :=
  frL (nsV g mainGlobals) fun l1 => frL (l1.flatMap (stV g)) fun l2 => frL (l2.flatMap (nsV g)) fun l3 => frL (l3.flatMap (fdV g)) fun l4 => frL (l4.flatMap (stV g)) fun l5 => k (mainGlobals :: (l1 ++ (l2 ++ (l3 ++ (l4 ++ l5)))))
def lsS (g : Addr → Option Obj) : List Addr := asS g fun l => l
theorem asS_eq {α : Type} (g : Addr → Option Obj) (k : List Addr → α) : asS g k = k (lsS g) := by
  unfold lsS asS
  simp only [frL_eq]
/-- the written part -/
abbrev fgS (g : Addr → Option Obj) : Frag := frT g (lsS g)
def obsSS (fa : List Fa) (ex : Frag → Bool) (fn : List DefG) (tf : List (Frag → Addr)) (g : Addr → Option Obj) : AlT := (obsG fa ex fn (fgS g), tabB g tf (fgS g))
/-- .. the quick way -/
def obsSF (fa : List Fa) (ex : Frag → Bool) (fn : List DefG) (tf : List (Frag → Addr)) (g : Addr → Option Obj) : AlT := asS g fun l => frF (frT g l) fun K => (obsG fa ex fn K, tabB g tf K)
theorem obsSF_eq (fa : List Fa) (ex : Frag → Bool) (fn : List DefG) (tf : List (Frag → Addr)) (g : Addr → Option Obj) : obsSF fa ex fn tf g = obsSS fa ex fn tf g := by
  unfold obsSF
  rw [asS_eq, frF_eq]
  rfl
theorem tabS_of {tf : List (Frag → Addr)} {as : List Addr} {h : Heap} (e : tabB h.get? tf (frT h.get? as) = true) : TabF tf h (frT h.get? as) := by
  have key : ∀ f ∈ tf, _ := fun f hf => ba (List.all_eq_true.mp e f hf)
  have tab : ∀ f ∈ tf, ∃ o, h.get? (cTA (frT h.get? as) f).2 = some o ∧ emptyTab o = true := fun f hf => by
    have z := (ba (key f hf).2).2
    cases q : h.get? (cTA (frT h.get? as) f).2 with
    | none =>
      rw [q] at z
      cases z
    | some o =>
      rw [q] at z
      exact ⟨o, rfl, z⟩
  exact ⟨fun f hf => of_decide_eq_true (key f hf).1, fun f hf => (ba (key f hf).2).1, fun f hf => by
    obtain ⟨o, q, z⟩ := tab f hf
    exact frT_none q z, fun f hf => by
    obtain ⟨o, q, z⟩ := tab f hf
    rw [q, emptyTab_eq z]⟩
def hookS (fa : List Fa) (ex : Frag → Bool) (fn : List DefG) (tf : List (Frag → Addr)) : PySem.W.Hook where
  α := AlT
  obs := fun s => obsSS fa ex fn tf s.heap.get?
  val := fun _ => (valG fn, true)
  says := fun _ h => ∃ K : Frag, K.In h ∧ SaysG fa ex fn K ∧ TabF tf h K
  of := fun _ _ e => ⟨_, frT_in, congrArg (fun z : AlT => z.1) e, tabS_of (congrArg (fun z : AlT => z.2) e)⟩
  keeps := fun _ _ _ ⟨K, hK, c, t⟩ k => ⟨K, PySem.W.Frag.In.keeps hK k, c, ⟨t.code, t.hd, t.out, fun f hf => k _ _ (t.empty f hf)⟩⟩
theorem obsSS_eq {fa : List Fa} {ex : Frag → Bool} {fn : List DefG} {tf : List (Frag → Addr)} {g : Addr → Option Obj} {s : Shared} (h : ∀ a, g a = s.heap.get? a) : obsSS fa ex fn tf g = (hookS fa ex fn tf).obs s := by
  have e : g = s.heap.get? := funext h
  rw [e] <;> rfl
theorem obsSF_ok {fa : List Fa} {ex : Frag → Bool} {fn : List DefG} {tf : List (Frag → Addr)} (s : PySem.W.SharedT) : obsSF fa ex fn tf (getT s) = (hookS fa ex fn tf).obs s.abs := by
  rw [obsSF_eq]
  exact obsSS_eq (getT_eq s)
/-- a look at the state behind the top -/
def LookEq (r : PySem.W.OpenRow) (ex : Frag → Bool) (M : Nat) (w : World) : Prop :=
  ∀ os : OsState, (endF (stepQ (denQ tabQ) r.prog w) M r.prog w os).map (fun s => asS (getT s) fun l => frF (frT (getT s) l) fun K => ex K) = some true
theorem run_more {r : PySem.W.OpenRow} {q : Program} {fa : List Fa} {ex1 ex2 : Frag → Bool} {fn : List DefG} {tf : List (Frag → Addr)} {M : Nat} {loose : List Str} {w : World}
    (h1 : RunEq r q (hookS fa ex1 fn tf) (fun s => obsSF fa ex1 fn tf (getT s)) M loose w) (h2 : LookEq r ex2 M w) :
    RunEq r q (hookS fa (fun K => ex1 K && ex2 K) fn tf) (fun s => obsSF fa (fun K => ex1 K && ex2 K) fn tf (getT s)) M loose w := by
  intro os
  have a := h1 os
  have b := h2 os
  obtain ⟨s, es, ea⟩ := Option.map_eq_some_iff.mp a
  rw [es] at b ⊢
  have b0 : (asS (getT s) fun l => frF (frT (getT s) l) fun K => ex2 K) = true := Option.some.inj b
  have b' : ex2 (fgS (getT s)) = true := by
    rw [asS_eq, frF_eq] at b0
    exact b0
  have e1 := congrArg (fun z => z.1) ea
  have e2 := congrArg (fun z => z.2.1) ea
  have e3 := congrArg (fun z => z.2.2) ea
  refine congrArg some ?_
  refine Prod.ext e1 (Prod.ext e2 ?_)
  have e4 : obsSF fa ex1 fn tf (getT s) = (valG fn, true) := e3
  show obsSF fa (fun K => ex1 K && ex2 K) fn tf (getT s) = (valG fn, true)
  rw [obsSF_eq] at e4 ⊢
  have e5 : obsG fa ex1 fn (fgS (getT s)) = valG fn := congrArg (·.1) e4
  have e6 : tabB (getT s) tf (fgS (getT s)) = true := congrArg (·.2) e4
  have e7 : ((fa.all fun f => f.ok (fgS (getT s))) && (ex1 (fgS (getT s)) && fn.all fun d => d.ok (fgS (getT s)))) = true := congrArg (·.1) e5
  have e8 : (fn.map fun d => fnG (fgS (getT s)) (d.ad (fgS (getT s)))) = fn.map DefG.val := congrArg (·.2) e5
  obtain ⟨f1, f2⟩ := ba e7
  obtain ⟨f2, f3⟩ := ba f2
  refine Prod.ext (Prod.ext ?_ e8) e6
  show ((fa.all fun f => f.ok _) && ((ex1 _ && ex2 _) && fn.all fun d => d.ok _)) = true
  rw [f1, f2, f3, b']
  rfl
theorem LookEq.and {r : PySem.W.OpenRow} {e1 e2 : Frag → Bool} {M : Nat} {w : World} (h1 : LookEq r e1 M w) (h2 : LookEq r e2 M w) : LookEq r (fun K => e1 K && e2 K) M w := by
  intro os
  have a := h1 os
  have b := h2 os
  obtain ⟨s, es, ea⟩ := Option.map_eq_some_iff.mp a
  rw [es] at b ⊢
  have b0 : (asS (getT s) fun l => frF (frT (getT s) l) fun K => e2 K) = true := Option.some.inj b
  rw [asS_eq, frF_eq] at ea b0
  refine congrArg some ?_
  show (asS (getT s) fun l => frF (frT (getT s) l) fun K => e1 K && e2 K) = true
  rw [asS_eq, frF_eq]
  show (e1 _ && e2 _) = true
  have ea' : e1 (frT (getT s) (lsS (getT s))) = true := ea
  have eb' : e2 (frT (getT s) (lsS (getT s))) = true := b0
  rw [ea', eb']
  rfl
/-- a look at defs -/
def LookV (r : PySem.W.OpenRow) (fn : List DefG) (M : Nat) (w : World) : Prop :=
  ∀ os : OsState, (endF (stepQ (denQ tabQ) r.prog w) M r.prog w os).map (fun s => asS (getT s) fun l => frF (frT (getT s) l) fun K => fn.map fun d => fnG K (d.ad K)) = some (fn.map DefG.val)
theorem LookV.app {r : PySem.W.OpenRow} {f1 f2 : List DefG} {M : Nat} {w : World} (h1 : LookV r f1 M w) (h2 : LookV r f2 M w) : LookV r (f1 ++ f2) M w := by
  intro os
  have a := h1 os
  have b := h2 os
  obtain ⟨s, es, ea⟩ := Option.map_eq_some_iff.mp a
  rw [es] at b ⊢
  have b0 : (asS (getT s) fun l => frF (frT (getT s) l) fun K => f2.map fun d => fnG K (d.ad K)) = f2.map DefG.val := Option.some.inj b
  rw [asS_eq, frF_eq] at ea b0
  refine congrArg some ?_
  show (asS (getT s) fun l => frF (frT (getT s) l) fun K => (f1 ++ f2).map fun d => fnG K (d.ad K)) = _
  rw [asS_eq, frF_eq]
  show (f1 ++ f2).map _ = (f1 ++ f2).map _
  rw [List.map_append, List.map_append]
  exact (congrArg (fun z : List FnW => z ++ _) ea).trans (congrArg (fun z : List FnW => _ ++ z) b0)
/-- the run without looks, and the looks -/
theorem run_of {r : PySem.W.OpenRow} {q : Program} {fa : List Fa} {ex : Frag → Bool} {fn : List DefG} {tf : List (Frag → Addr)} {M : Nat} {loose : List Str} {w : World}
    (h1 : RunEq r q (hookS [] (fun _ => true) [] tf) (fun s => obsSF [] (fun _ => true) [] tf (getT s)) M loose w) (h2 : LookEq r (fun K => (fa.all fun f => f.ok K) && (ex K && fn.all fun d => d.ok K)) M w) (h3 : LookV r fn M w) :
    RunEq r q (hookS fa ex fn tf) (fun s => obsSF fa ex fn tf (getT s)) M loose w := by
  intro os
  have a := h1 os
  have b := h2 os
  have c := h3 os
  obtain ⟨s, es, ea⟩ := Option.map_eq_some_iff.mp a
  rw [es] at b c ⊢
  have b0 : (asS (getT s) fun l => frF (frT (getT s) l) fun K => (fa.all fun f => f.ok K) && (ex K && fn.all fun d => d.ok K)) = true := Option.some.inj b
  have c0 : (asS (getT s) fun l => frF (frT (getT s) l) fun K => fn.map fun d => fnG K (d.ad K)) = fn.map DefG.val := Option.some.inj c
  rw [asS_eq, frF_eq] at b0 c0
  have e1 := congrArg (fun z => z.1) ea
  have e2 := congrArg (fun z => z.2.1) ea
  have e3 := congrArg (fun z => z.2.2) ea
  refine congrArg some ?_
  refine Prod.ext e1 (Prod.ext e2 ?_)
  have e4 : obsSF [] (fun _ => true) [] tf (getT s) = (valG [], true) := e3
  show obsSF fa ex fn tf (getT s) = (valG fn, true)
  rw [obsSF_eq] at e4 ⊢
  have e6 : tabB (getT s) tf (fgS (getT s)) = true := congrArg (·.2) e4
  refine Prod.ext (Prod.ext ?_ c0) e6
  exact b0
end Ah

namespace k56
open PySem PySem.Spec PyProof.Rows L2 He Ah
local macro_rules | `(tactic| walk_at "st") => `(tactic| repeat (first | refine ⟨_, rfl, ?_⟩ | refine ⟨_, _, rfl, rfl, ?_⟩))
local macro_rules | `(tactic| walk_at "lk") => `(tactic| repeat (first | exact look0 | rw [lookS (by decide +kernel)]))
local macro_rules | `(tactic| walk_at "pf") => `(tactic| repeat (first | rw [putF0] | rw [putF_hit] | rw [putFS (by decide +kernel)]))
local macro_rules | `(tactic| walk_at "nm") => `(tactic| simp only [tRet, tRetN, tSeq, tNext, tAsg, gName, tDrop, tIfS, tTest, tB, tNot, tAnd, tOr, tAndV, tOrV, tNotV, tIf, tC, tCons, tNil, tCB, tCall, tOp, tUn, tChain, rI0, rI, tVar, tSl, tPart, tNoPart, tLst, tTup, gSub, tPar, cxOf, L2.Cx.nox, L2.Cx.wish, L2.start, List.map_cons, List.map_nil, List.length_cons, List.length_nil, List.nil_append, List.cons_append, List.append_nil, Nat.zero_add, Nat.reduceAdd, Nat.reduceSub, Nat.sub_self, Nat.sub_zero, List.replicate_succ, List.replicate_zero, List.getElem?_cons_zero, List.getElem?_cons_succ, List.set_cons_zero, List.set_cons_succ, Option.some.injEq, exists_eq_left, exists_eq_left', exists_eq_right, exists_and_left, decide_eq_true_eq, decide_eq_false_iff_not, Bool.not_eq_true', V.int.injEq, V.bl.injEq, V.str.injEq, V.ref.injEq, List.cons.injEq, and_true, true_and, if_true, if_false, Bool.false_eq_true, Bool.not_true, Bool.not_false, ite_true, ite_false])
def top (i : Nat) : Stmt := PySem.Challenge.pw_arccursors_k56_errors_of_records.main.body.getD i (.Pass ⟨0, 0, 0, 0⟩)
abbrev s__wall : Stmt := top 0
def g__wall : DefG := { ad := glA "_wall", name := "_wall", qual := "_wall", params := defArgs s__wall, body := defBody s__wall, scope := defScope s__wall }
abbrev s_is_integer : Stmt := top 25
def g_is_integer : DefG := { ad := glA "is_integer", name := "is_integer", qual := "is_integer", params := defArgs s_is_integer, body := defBody s_is_integer, scope := defScope s_is_integer }
abbrev s_in_range : Stmt := top 26
def g_in_range : DefG := { ad := glA "in_range", name := "in_range", qual := "in_range", params := defArgs s_in_range, body := defBody s_in_range, scope := defScope s_in_range }
abbrev s_check_number : Stmt := top 27
def g_check_number : DefG := { ad := glA "check_number", name := "check_number", qual := "check_number", params := defArgs s_check_number, body := defBody s_check_number, scope := defScope s_check_number }
abbrev s_check_least : Stmt := top 28
def g_check_least : DefG := { ad := glA "check_least", name := "check_least", qual := "check_least", params := defArgs s_check_least, body := defBody s_check_least, scope := defScope s_check_least }
abbrev s_is_key : Stmt := top 29
def g_is_key : DefG := { ad := glA "is_key", name := "is_key", qual := "is_key", params := defArgs s_is_key, body := defBody s_is_key, scope := defScope s_is_key }
abbrev s_check_key : Stmt := top 30
def g_check_key : DefG := { ad := glA "check_key", name := "check_key", qual := "check_key", params := defArgs s_check_key, body := defBody s_check_key, scope := defScope s_check_key }
abbrev s_mix_of : Stmt := top 31
def g_mix_of : DefG := { ad := glA "mix_of", name := "mix_of", qual := "mix_of", params := defArgs s_mix_of, body := defBody s_mix_of, scope := defScope s_mix_of }
abbrev s_check_mixing : Stmt := top 33
def g_check_mixing : DefG := { ad := glA "check_mixing", name := "check_mixing", qual := "check_mixing", params := defArgs s_check_mixing, body := defBody s_check_mixing, scope := defScope s_check_mixing }
abbrev s_place_of : Stmt := top 34
def g_place_of : DefG := { ad := glA "place_of", name := "place_of", qual := "place_of", params := defArgs s_place_of, body := defBody s_place_of, scope := defScope s_place_of }
abbrev s_is_point : Stmt := top 35
def g_is_point : DefG := { ad := glA "is_point", name := "is_point", qual := "is_point", params := defArgs s_is_point, body := defBody s_is_point, scope := defScope s_is_point }
abbrev s_check_point : Stmt := top 36
def g_check_point : DefG := { ad := glA "check_point", name := "check_point", qual := "check_point", params := defArgs s_check_point, body := defBody s_check_point, scope := defScope s_check_point }
abbrev s_split_at : Stmt := top 38
def g_split_at : DefG := { ad := glA "split_at", name := "split_at", qual := "split_at", params := defArgs s_split_at, body := defBody s_split_at, scope := defScope s_split_at }
abbrev s_check_arc : Stmt := top 39
def g_check_arc : DefG := { ad := glA "check_arc", name := "check_arc", qual := "check_arc", params := defArgs s_check_arc, body := defBody s_check_arc, scope := defScope s_check_arc }
abbrev s_whole_line : Stmt := top 40
def g_whole_line : DefG := { ad := glA "whole_line", name := "whole_line", qual := "whole_line", params := defArgs s_whole_line, body := defBody s_whole_line, scope := defScope s_whole_line }
abbrev s_check_arcs : Stmt := top 41
def g_check_arcs : DefG := { ad := glA "check_arcs", name := "check_arcs", qual := "check_arcs", params := defArgs s_check_arcs, body := defBody s_check_arcs, scope := defScope s_check_arcs }
abbrev s_tiling_fault : Stmt := top 42
def g_tiling_fault : DefG := { ad := glA "tiling_fault", name := "tiling_fault", qual := "tiling_fault", params := defArgs s_tiling_fault, body := defBody s_tiling_fault, scope := defScope s_tiling_fault }
abbrev s_cursor_of : Stmt := top 44
def g_cursor_of : DefG := { ad := glA "cursor_of", name := "cursor_of", qual := "cursor_of", params := defArgs s_cursor_of, body := defBody s_cursor_of, scope := defScope s_cursor_of }
abbrev s_check_value : Stmt := top 48
def g_check_value : DefG := { ad := glA "check_value", name := "check_value", qual := "check_value", params := defArgs s_check_value, body := defBody s_check_value, scope := defScope s_check_value }
abbrev s_log_with : Stmt := top 51
def g_log_with : DefG := { ad := glA "log_with", name := "log_with", qual := "log_with", params := defArgs s_log_with, body := defBody s_log_with, scope := defScope s_log_with }
abbrev s_table_with : Stmt := top 52
def g_table_with : DefG := { ad := glA "table_with", name := "table_with", qual := "table_with", params := defArgs s_table_with, body := defBody s_table_with, scope := defScope s_table_with }
abbrev s_undone : Stmt := top 53
def g_undone : DefG := { ad := glA "undone", name := "undone", qual := "undone", params := defArgs s_undone, body := defBody s_undone, scope := defScope s_undone }
abbrev s_is_name : Stmt := top 60
def g_is_name : DefG := { ad := glA "is_name", name := "is_name", qual := "is_name", params := defArgs s_is_name, body := defBody s_is_name, scope := defScope s_is_name }
abbrev s_check_hosts : Stmt := top 61
def g_check_hosts : DefG := { ad := glA "check_hosts", name := "check_hosts", qual := "check_hosts", params := defArgs s_check_hosts, body := defBody s_check_hosts, scope := defScope s_check_hosts }
abbrev s_check_store : Stmt := top 64
def g_check_store : DefG := { ad := glA "check_store", name := "check_store", qual := "check_store", params := defArgs s_check_store, body := defBody s_check_store, scope := defScope s_check_store }
abbrev s_is_positive : Stmt := top 66
def g_is_positive : DefG := { ad := glA "is_positive", name := "is_positive", qual := "is_positive", params := defArgs s_is_positive, body := defBody s_is_positive, scope := defScope s_is_positive }
abbrev s_is_count : Stmt := top 67
def g_is_count : DefG := { ad := glA "is_count", name := "is_count", qual := "is_count", params := defArgs s_is_count, body := defBody s_is_count, scope := defScope s_is_count }
abbrev s_is_period : Stmt := top 68
def g_is_period : DefG := { ad := glA "is_period", name := "is_period", qual := "is_period", params := defArgs s_is_period, body := defBody s_is_period, scope := defScope s_is_period }
abbrev s_holds_at : Stmt := top 69
def g_holds_at : DefG := { ad := glA "holds_at", name := "holds_at", qual := "holds_at", params := defArgs s_holds_at, body := defBody s_holds_at, scope := defScope s_holds_at }
abbrev s_is_inside : Stmt := top 70
def g_is_inside : DefG := { ad := glA "is_inside", name := "is_inside", qual := "is_inside", params := defArgs s_is_inside, body := defBody s_is_inside, scope := defScope s_is_inside }
abbrev s_uncovered : Stmt := top 71
def g_uncovered : DefG := { ad := glA "uncovered", name := "uncovered", qual := "uncovered", params := defArgs s_uncovered, body := defBody s_uncovered, scope := defScope s_uncovered }
abbrev s_check_records : Stmt := top 73
def g_check_records : DefG := { ad := glA "check_records", name := "check_records", qual := "check_records", params := defArgs s_check_records, body := defBody s_check_records, scope := defScope s_check_records }
abbrev s_records_of : Stmt := top 74
def g_records_of : DefG := { ad := glA "records_of", name := "records_of", qual := "records_of", params := defArgs s_records_of, body := defBody s_records_of, scope := defScope s_records_of }
abbrev s_has_form : Stmt := top 75
def g_has_form : DefG := { ad := glA "has_form", name := "has_form", qual := "has_form", params := defArgs s_has_form, body := defBody s_has_form, scope := defScope s_has_form }
abbrev s_are_in_order : Stmt := top 76
def g_are_in_order : DefG := { ad := glA "are_in_order", name := "are_in_order", qual := "are_in_order", params := defArgs s_are_in_order, body := defBody s_are_in_order, scope := defScope s_are_in_order }
abbrev s_is_whole : Stmt := top 77
def g_is_whole : DefG := { ad := glA "is_whole", name := "is_whole", qual := "is_whole", params := defArgs s_is_whole, body := defBody s_is_whole, scope := defScope s_is_whole }
abbrev s_receipt_fault : Stmt := top 78
def g_receipt_fault : DefG := { ad := glA "receipt_fault", name := "receipt_fault", qual := "receipt_fault", params := defArgs s_receipt_fault, body := defBody s_receipt_fault, scope := defScope s_receipt_fault }
abbrev s_check_receipts : Stmt := top 79
def g_check_receipts : DefG := { ad := glA "check_receipts", name := "check_receipts", qual := "check_receipts", params := defArgs s_check_receipts, body := defBody s_check_receipts, scope := defScope s_check_receipts }
abbrev s_listing_fault : Stmt := top 80
def g_listing_fault : DefG := { ad := glA "listing_fault", name := "listing_fault", qual := "listing_fault", params := defArgs s_listing_fault, body := defBody s_listing_fault, scope := defScope s_listing_fault }
abbrev s_is_listing : Stmt := top 81
def g_is_listing : DefG := { ad := glA "is_listing", name := "is_listing", qual := "is_listing", params := defArgs s_is_listing, body := defBody s_is_listing, scope := defScope s_is_listing }
abbrev s_missing_parts : Stmt := top 82
def g_missing_parts : DefG := { ad := glA "missing_parts", name := "missing_parts", qual := "missing_parts", params := defArgs s_missing_parts, body := defBody s_missing_parts, scope := defScope s_missing_parts }
abbrev s__law_hand : Stmt := top 84
def g__law_hand : DefG := { ad := glA "_law_hand", name := "_law_hand", qual := "_law_hand", params := defArgs s__law_hand, body := defBody s__law_hand, scope := defScope s__law_hand }
abbrev s__law_draw : Stmt := top 85
def g__law_draw : DefG := { ad := glA "_law_draw", name := "_law_draw", qual := "_law_draw", params := defArgs s__law_draw, body := defBody s__law_draw, scope := defScope s__law_draw }
abbrev s__law_call : Stmt := top 86
def g__law_call : DefG := { ad := glA "_law_call", name := "_law_call", qual := "_law_call", params := defArgs s__law_call, body := defBody s__law_call, scope := defScope s__law_call }
abbrev s__law_told : Stmt := top 87
def g__law_told : DefG := { ad := glA "_law_told", name := "_law_told", qual := "_law_told", params := defArgs s__law_told, body := defBody s__law_told, scope := defScope s__law_told }
abbrev s__law_owner_told : Stmt := top 88
def g__law_owner_told : DefG := { ad := glA "_law_owner_told", name := "_law_owner_told", qual := "_law_owner_told", params := defArgs s__law_owner_told, body := defBody s__law_owner_told, scope := defScope s__law_owner_told }
abbrev s__law_bad_periods : Stmt := top 89
def g__law_bad_periods : DefG := { ad := glA "_law_bad_periods", name := "_law_bad_periods", qual := "_law_bad_periods", params := defArgs s__law_bad_periods, body := defBody s__law_bad_periods, scope := defScope s__law_bad_periods }
abbrev s_law : Stmt := top 90
def g_law : DefG := { ad := glA "law", name := "law", qual := "law", params := defArgs s_law, body := defBody s_law, scope := defScope s_law }
abbrev s_InvalidNumber_init : Stmt := inClass (top 2) 0
def g_InvalidNumber_init : DefG := { ad := mtA "InvalidNumber" "__init__", name := "__init__", qual := "InvalidNumber.__init__", params := defArgs s_InvalidNumber_init, body := defBody s_InvalidNumber_init, scope := defScope s_InvalidNumber_init }
abbrev s_InvalidKey_init : Stmt := inClass (top 3) 0
def g_InvalidKey_init : DefG := { ad := mtA "InvalidKey" "__init__", name := "__init__", qual := "InvalidKey.__init__", params := defArgs s_InvalidKey_init, body := defBody s_InvalidKey_init, scope := defScope s_InvalidKey_init }
abbrev s_InvalidMixing_init : Stmt := inClass (top 4) 0
def g_InvalidMixing_init : DefG := { ad := mtA "InvalidMixing" "__init__", name := "__init__", qual := "InvalidMixing.__init__", params := defArgs s_InvalidMixing_init, body := defBody s_InvalidMixing_init, scope := defScope s_InvalidMixing_init }
abbrev s_InvalidPoint_init : Stmt := inClass (top 5) 0
def g_InvalidPoint_init : DefG := { ad := mtA "InvalidPoint" "__init__", name := "__init__", qual := "InvalidPoint.__init__", params := defArgs s_InvalidPoint_init, body := defBody s_InvalidPoint_init, scope := defScope s_InvalidPoint_init }
abbrev s_InvalidArc_init : Stmt := inClass (top 6) 0
def g_InvalidArc_init : DefG := { ad := mtA "InvalidArc" "__init__", name := "__init__", qual := "InvalidArc.__init__", params := defArgs s_InvalidArc_init, body := defBody s_InvalidArc_init, scope := defScope s_InvalidArc_init }
abbrev s_InvalidArcs_init : Stmt := inClass (top 7) 0
def g_InvalidArcs_init : DefG := { ad := mtA "InvalidArcs" "__init__", name := "__init__", qual := "InvalidArcs.__init__", params := defArgs s_InvalidArcs_init, body := defBody s_InvalidArcs_init, scope := defScope s_InvalidArcs_init }
abbrev s_InvalidHosts_init : Stmt := inClass (top 8) 0
def g_InvalidHosts_init : DefG := { ad := mtA "InvalidHosts" "__init__", name := "__init__", qual := "InvalidHosts.__init__", params := defArgs s_InvalidHosts_init, body := defBody s_InvalidHosts_init, scope := defScope s_InvalidHosts_init }
abbrev s_InvalidHost_init : Stmt := inClass (top 9) 0
def g_InvalidHost_init : DefG := { ad := mtA "InvalidHost" "__init__", name := "__init__", qual := "InvalidHost.__init__", params := defArgs s_InvalidHost_init, body := defBody s_InvalidHost_init, scope := defScope s_InvalidHost_init }
abbrev s_InvalidStore_init : Stmt := inClass (top 10) 0
def g_InvalidStore_init : DefG := { ad := mtA "InvalidStore" "__init__", name := "__init__", qual := "InvalidStore.__init__", params := defArgs s_InvalidStore_init, body := defBody s_InvalidStore_init, scope := defScope s_InvalidStore_init }
abbrev s_MissingKey_init : Stmt := inClass (top 11) 0
def g_MissingKey_init : DefG := { ad := mtA "MissingKey" "__init__", name := "__init__", qual := "MissingKey.__init__", params := defArgs s_MissingKey_init, body := defBody s_MissingKey_init, scope := defScope s_MissingKey_init }
abbrev s_UnknownShard_init : Stmt := inClass (top 12) 0
def g_UnknownShard_init : DefG := { ad := mtA "UnknownShard" "__init__", name := "__init__", qual := "UnknownShard.__init__", params := defArgs s_UnknownShard_init, body := defBody s_UnknownShard_init, scope := defScope s_UnknownShard_init }
abbrev s_Forgotten_init : Stmt := inClass (top 13) 0
def g_Forgotten_init : DefG := { ad := mtA "Forgotten" "__init__", name := "__init__", qual := "Forgotten.__init__", params := defArgs s_Forgotten_init, body := defBody s_Forgotten_init, scope := defScope s_Forgotten_init }
abbrev s_NotMoving_init : Stmt := inClass (top 14) 0
def g_NotMoving_init : DefG := { ad := mtA "NotMoving" "__init__", name := "__init__", qual := "NotMoving.__init__", params := defArgs s_NotMoving_init, body := defBody s_NotMoving_init, scope := defScope s_NotMoving_init }
abbrev s_Unavailable_init : Stmt := inClass (top 15) 0
def g_Unavailable_init : DefG := { ad := mtA "Unavailable" "__init__", name := "__init__", qual := "Unavailable.__init__", params := defArgs s_Unavailable_init, body := defBody s_Unavailable_init, scope := defScope s_Unavailable_init }
abbrev s_InvalidRecords_init : Stmt := inClass (top 16) 0
def g_InvalidRecords_init : DefG := { ad := mtA "InvalidRecords" "__init__", name := "__init__", qual := "InvalidRecords.__init__", params := defArgs s_InvalidRecords_init, body := defBody s_InvalidRecords_init, scope := defScope s_InvalidRecords_init }
abbrev s_InvalidReceipts_init : Stmt := inClass (top 17) 0
def g_InvalidReceipts_init : DefG := { ad := mtA "InvalidReceipts" "__init__", name := "__init__", qual := "InvalidReceipts.__init__", params := defArgs s_InvalidReceipts_init, body := defBody s_InvalidReceipts_init, scope := defScope s_InvalidReceipts_init }
abbrev s_Mixing_init : Stmt := inClass (top 32) 0
def g_Mixing_init : DefG := { ad := mtA "Mixing" "__init__", name := "__init__", qual := "Mixing.__init__", params := defArgs s_Mixing_init, body := defBody s_Mixing_init, scope := defScope s_Mixing_init }
abbrev s_Mixing_base : Stmt := inClass (top 32) 1
def g_Mixing_base : DefG := { ad := gtA "Mixing" "base", name := "base", qual := "Mixing.base", params := defArgs s_Mixing_base, body := defBody s_Mixing_base, scope := defScope s_Mixing_base }
abbrev s_Mixing_bits : Stmt := inClass (top 32) 2
def g_Mixing_bits : DefG := { ad := gtA "Mixing" "bits", name := "bits", qual := "Mixing.bits", params := defArgs s_Mixing_bits, body := defBody s_Mixing_bits, scope := defScope s_Mixing_bits }
abbrev s_Mixing_call : Stmt := inClass (top 32) 3
def g_Mixing_call : DefG := { ad := mtA "Mixing" "__call__", name := "__call__", qual := "Mixing.__call__", params := defArgs s_Mixing_call, body := defBody s_Mixing_call, scope := defScope s_Mixing_call }
abbrev s_Mixing_eq : Stmt := inClass (top 32) 4
def g_Mixing_eq : DefG := { ad := mtA "Mixing" "__eq__", name := "__eq__", qual := "Mixing.__eq__", params := defArgs s_Mixing_eq, body := defBody s_Mixing_eq, scope := defScope s_Mixing_eq }
abbrev s_Mixing_repr : Stmt := inClass (top 32) 5
def g_Mixing_repr : DefG := { ad := mtA "Mixing" "__repr__", name := "__repr__", qual := "Mixing.__repr__", params := defArgs s_Mixing_repr, body := defBody s_Mixing_repr, scope := defScope s_Mixing_repr }
abbrev s_Arc_init : Stmt := inClass (top 37) 0
def g_Arc_init : DefG := { ad := mtA "Arc" "__init__", name := "__init__", qual := "Arc.__init__", params := defArgs s_Arc_init, body := defBody s_Arc_init, scope := defScope s_Arc_init }
abbrev s_Arc_start : Stmt := inClass (top 37) 1
def g_Arc_start : DefG := { ad := gtA "Arc" "start", name := "start", qual := "Arc.start", params := defArgs s_Arc_start, body := defBody s_Arc_start, scope := defScope s_Arc_start }
abbrev s_Arc_end : Stmt := inClass (top 37) 2
def g_Arc_end : DefG := { ad := gtA "Arc" "end", name := "end", qual := "Arc.end", params := defArgs s_Arc_end, body := defBody s_Arc_end, scope := defScope s_Arc_end }
abbrev s_Arc_contains : Stmt := inClass (top 37) 3
def g_Arc_contains : DefG := { ad := mtA "Arc" "__contains__", name := "__contains__", qual := "Arc.__contains__", params := defArgs s_Arc_contains, body := defBody s_Arc_contains, scope := defScope s_Arc_contains }
abbrev s_Arc_and : Stmt := inClass (top 37) 4
def g_Arc_and : DefG := { ad := mtA "Arc" "__and__", name := "__and__", qual := "Arc.__and__", params := defArgs s_Arc_and, body := defBody s_Arc_and, scope := defScope s_Arc_and }
abbrev s_Arc_split : Stmt := inClass (top 37) 5
def g_Arc_split : DefG := { ad := mtA "Arc" "split", name := "split", qual := "Arc.split", params := defArgs s_Arc_split, body := defBody s_Arc_split, scope := defScope s_Arc_split }
abbrev s_Arc_eq : Stmt := inClass (top 37) 6
def g_Arc_eq : DefG := { ad := mtA "Arc" "__eq__", name := "__eq__", qual := "Arc.__eq__", params := defArgs s_Arc_eq, body := defBody s_Arc_eq, scope := defScope s_Arc_eq }
abbrev s_Arc_repr : Stmt := inClass (top 37) 7
def g_Arc_repr : DefG := { ad := mtA "Arc" "__repr__", name := "__repr__", qual := "Arc.__repr__", params := defArgs s_Arc_repr, body := defBody s_Arc_repr, scope := defScope s_Arc_repr }
abbrev s_Receipt_init : Stmt := inClass (top 45) 0
def g_Receipt_init : DefG := { ad := mtA "Receipt" "__init__", name := "__init__", qual := "Receipt.__init__", params := defArgs s_Receipt_init, body := defBody s_Receipt_init, scope := defScope s_Receipt_init }
abbrev s_Receipt_arc : Stmt := inClass (top 45) 1
def g_Receipt_arc : DefG := { ad := gtA "Receipt" "arc", name := "arc", qual := "Receipt.arc", params := defArgs s_Receipt_arc, body := defBody s_Receipt_arc, scope := defScope s_Receipt_arc }
abbrev s_Receipt_shard : Stmt := inClass (top 45) 2
def g_Receipt_shard : DefG := { ad := gtA "Receipt" "shard", name := "shard", qual := "Receipt.shard", params := defArgs s_Receipt_shard, body := defBody s_Receipt_shard, scope := defScope s_Receipt_shard }
abbrev s_Receipt_epoch : Stmt := inClass (top 45) 3
def g_Receipt_epoch : DefG := { ad := gtA "Receipt" "epoch", name := "epoch", qual := "Receipt.epoch", params := defArgs s_Receipt_epoch, body := defBody s_Receipt_epoch, scope := defScope s_Receipt_epoch }
abbrev s_Receipt_host : Stmt := inClass (top 45) 4
def g_Receipt_host : DefG := { ad := gtA "Receipt" "host", name := "host", qual := "Receipt.host", params := defArgs s_Receipt_host, body := defBody s_Receipt_host, scope := defScope s_Receipt_host }
abbrev s_Receipt_moment : Stmt := inClass (top 45) 5
def g_Receipt_moment : DefG := { ad := gtA "Receipt" "moment", name := "moment", qual := "Receipt.moment", params := defArgs s_Receipt_moment, body := defBody s_Receipt_moment, scope := defScope s_Receipt_moment }
abbrev s_Receipt_made : Stmt := inClass (top 45) 6
def g_Receipt_made : DefG := { ad := gtA "Receipt" "made", name := "made", qual := "Receipt.made", params := defArgs s_Receipt_made, body := defBody s_Receipt_made, scope := defScope s_Receipt_made }
abbrev s_Receipt_listed : Stmt := inClass (top 45) 7
def g_Receipt_listed : DefG := { ad := gtA "Receipt" "listed", name := "listed", qual := "Receipt.listed", params := defArgs s_Receipt_listed, body := defBody s_Receipt_listed, scope := defScope s_Receipt_listed }
abbrev s_Receipt_eq : Stmt := inClass (top 45) 8
def g_Receipt_eq : DefG := { ad := mtA "Receipt" "__eq__", name := "__eq__", qual := "Receipt.__eq__", params := defArgs s_Receipt_eq, body := defBody s_Receipt_eq, scope := defScope s_Receipt_eq }
abbrev s_Table_init : Stmt := inClass (top 49) 0
def g_Table_init : DefG := { ad := mtA "Table" "__init__", name := "__init__", qual := "Table.__init__", params := defArgs s_Table_init, body := defBody s_Table_init, scope := defScope s_Table_init }
abbrev s_Table_mixing : Stmt := inClass (top 49) 1
def g_Table_mixing : DefG := { ad := gtA "Table" "mixing", name := "mixing", qual := "Table.mixing", params := defArgs s_Table_mixing, body := defBody s_Table_mixing, scope := defScope s_Table_mixing }
abbrev s_Table_contents : Stmt := inClass (top 49) 2
def g_Table_contents : DefG := { ad := gtA "Table" "contents", name := "contents", qual := "Table.contents", params := defArgs s_Table_contents, body := defBody s_Table_contents, scope := defScope s_Table_contents }
abbrev s_Table_getitem : Stmt := inClass (top 49) 3
def g_Table_getitem : DefG := { ad := mtA "Table" "__getitem__", name := "__getitem__", qual := "Table.__getitem__", params := defArgs s_Table_getitem, body := defBody s_Table_getitem, scope := defScope s_Table_getitem }
abbrev s_Table_setitem : Stmt := inClass (top 49) 4
def g_Table_setitem : DefG := { ad := mtA "Table" "__setitem__", name := "__setitem__", qual := "Table.__setitem__", params := defArgs s_Table_setitem, body := defBody s_Table_setitem, scope := defScope s_Table_setitem }
abbrev s_Table_iter : Stmt := inClass (top 49) 5
def g_Table_iter : DefG := { ad := mtA "Table" "__iter__", name := "__iter__", qual := "Table.__iter__", params := defArgs s_Table_iter, body := defBody s_Table_iter, scope := defScope s_Table_iter }
abbrev s_Table_contains : Stmt := inClass (top 49) 6
def g_Table_contains : DefG := { ad := mtA "Table" "__contains__", name := "__contains__", qual := "Table.__contains__", params := defArgs s_Table_contains, body := defBody s_Table_contains, scope := defScope s_Table_contains }
abbrev s_Table_len : Stmt := inClass (top 49) 7
def g_Table_len : DefG := { ad := mtA "Table" "__len__", name := "__len__", qual := "Table.__len__", params := defArgs s_Table_len, body := defBody s_Table_len, scope := defScope s_Table_len }
abbrev s_Table_remove : Stmt := inClass (top 49) 8
def g_Table_remove : DefG := { ad := mtA "Table" "remove", name := "remove", qual := "Table.remove", params := defArgs s_Table_remove, body := defBody s_Table_remove, scope := defScope s_Table_remove }
abbrev s_Table_rows : Stmt := inClass (top 49) 9
def g_Table_rows : DefG := { ad := mtA "Table" "rows", name := "rows", qual := "Table.rows", params := defArgs s_Table_rows, body := defBody s_Table_rows, scope := defScope s_Table_rows }
abbrev s_Table_first_rows : Stmt := inClass (top 49) 10
def g_Table_first_rows : DefG := { ad := mtA "Table" "first_rows", name := "first_rows", qual := "Table.first_rows", params := defArgs s_Table_first_rows, body := defBody s_Table_first_rows, scope := defScope s_Table_first_rows }
abbrev s_Table_eq : Stmt := inClass (top 49) 11
def g_Table_eq : DefG := { ad := mtA "Table" "__eq__", name := "__eq__", qual := "Table.__eq__", params := defArgs s_Table_eq, body := defBody s_Table_eq, scope := defScope s_Table_eq }
abbrev s_Table_repr : Stmt := inClass (top 49) 12
def g_Table_repr : DefG := { ad := mtA "Table" "__repr__", name := "__repr__", qual := "Table.__repr__", params := defArgs s_Table_repr, body := defBody s_Table_repr, scope := defScope s_Table_repr }
abbrev s_ChangeLog_init : Stmt := inClass (top 50) 0
def g_ChangeLog_init : DefG := { ad := mtA "ChangeLog" "__init__", name := "__init__", qual := "ChangeLog.__init__", params := defArgs s_ChangeLog_init, body := defBody s_ChangeLog_init, scope := defScope s_ChangeLog_init }
abbrev s_ChangeLog_bound : Stmt := inClass (top 50) 1
def g_ChangeLog_bound : DefG := { ad := gtA "ChangeLog" "bound", name := "bound", qual := "ChangeLog.bound", params := defArgs s_ChangeLog_bound, body := defBody s_ChangeLog_bound, scope := defScope s_ChangeLog_bound }
abbrev s_ChangeLog_floor : Stmt := inClass (top 50) 2
def g_ChangeLog_floor : DefG := { ad := gtA "ChangeLog" "floor", name := "floor", qual := "ChangeLog.floor", params := defArgs s_ChangeLog_floor, body := defBody s_ChangeLog_floor, scope := defScope s_ChangeLog_floor }
abbrev s_ChangeLog_last : Stmt := inClass (top 50) 3
def g_ChangeLog_last : DefG := { ad := mtA "ChangeLog" "last", name := "last", qual := "ChangeLog.last", params := defArgs s_ChangeLog_last, body := defBody s_ChangeLog_last, scope := defScope s_ChangeLog_last }
abbrev s_ChangeLog_add : Stmt := inClass (top 50) 4
def g_ChangeLog_add : DefG := { ad := mtA "ChangeLog" "add", name := "add", qual := "ChangeLog.add", params := defArgs s_ChangeLog_add, body := defBody s_ChangeLog_add, scope := defScope s_ChangeLog_add }
abbrev s_ChangeLog_trim : Stmt := inClass (top 50) 5
def g_ChangeLog_trim : DefG := { ad := mtA "ChangeLog" "trim", name := "trim", qual := "ChangeLog.trim", params := defArgs s_ChangeLog_trim, body := defBody s_ChangeLog_trim, scope := defScope s_ChangeLog_trim }
abbrev s_ChangeLog_changes : Stmt := inClass (top 50) 6
def g_ChangeLog_changes : DefG := { ad := mtA "ChangeLog" "changes", name := "changes", qual := "ChangeLog.changes", params := defArgs s_ChangeLog_changes, body := defBody s_ChangeLog_changes, scope := defScope s_ChangeLog_changes }
abbrev s_ChangeLog_since : Stmt := inClass (top 50) 7
def g_ChangeLog_since : DefG := { ad := mtA "ChangeLog" "since", name := "since", qual := "ChangeLog.since", params := defArgs s_ChangeLog_since, body := defBody s_ChangeLog_since, scope := defScope s_ChangeLog_since }
abbrev s_ChangeLog_len : Stmt := inClass (top 50) 8
def g_ChangeLog_len : DefG := { ad := mtA "ChangeLog" "__len__", name := "__len__", qual := "ChangeLog.__len__", params := defArgs s_ChangeLog_len, body := defBody s_ChangeLog_len, scope := defScope s_ChangeLog_len }
abbrev s_ChangeLog_eq : Stmt := inClass (top 50) 9
def g_ChangeLog_eq : DefG := { ad := mtA "ChangeLog" "__eq__", name := "__eq__", qual := "ChangeLog.__eq__", params := defArgs s_ChangeLog_eq, body := defBody s_ChangeLog_eq, scope := defScope s_ChangeLog_eq }
abbrev s_Host_init : Stmt := inClass (top 55) 0
def g_Host_init : DefG := { ad := mtA "Host" "__init__", name := "__init__", qual := "Host.__init__", params := defArgs s_Host_init, body := defBody s_Host_init, scope := defScope s_Host_init }
abbrev s_Host_own : Stmt := inClass (top 55) 1
def g_Host_own : DefG := { ad := mtA "Host" "own", name := "own", qual := "Host.own", params := defArgs s_Host_own, body := defBody s_Host_own, scope := defScope s_Host_own }
abbrev s_Host_drop : Stmt := inClass (top 55) 2
def g_Host_drop : DefG := { ad := mtA "Host" "drop", name := "drop", qual := "Host.drop", params := defArgs s_Host_drop, body := defBody s_Host_drop, scope := defScope s_Host_drop }
abbrev s_Host_change : Stmt := inClass (top 55) 3
def g_Host_change : DefG := { ad := mtA "Host" "change", name := "change", qual := "Host.change", params := defArgs s_Host_change, body := defBody s_Host_change, scope := defScope s_Host_change }
abbrev s_Host_stop : Stmt := inClass (top 55) 4
def g_Host_stop : DefG := { ad := mtA "Host" "stop", name := "stop", qual := "Host.stop", params := defArgs s_Host_stop, body := defBody s_Host_stop, scope := defScope s_Host_stop }
abbrev s_Host_wake : Stmt := inClass (top 55) 5
def g_Host_wake : DefG := { ad := mtA "Host" "wake", name := "wake", qual := "Host.wake", params := defArgs s_Host_wake, body := defBody s_Host_wake, scope := defScope s_Host_wake }
abbrev s_Host_hint_for : Stmt := inClass (top 55) 6
def g_Host_hint_for : DefG := { ad := mtA "Host" "hint_for", name := "hint_for", qual := "Host.hint_for", params := defArgs s_Host_hint_for, body := defBody s_Host_hint_for, scope := defScope s_Host_hint_for }
abbrev s_Shard_init : Stmt := inClass (top 62) 0
def g_Shard_init : DefG := { ad := mtA "Shard" "__init__", name := "__init__", qual := "Shard.__init__", params := defArgs s_Shard_init, body := defBody s_Shard_init, scope := defScope s_Shard_init }
abbrev s_Store_init : Stmt := inClass (top 63) 0
def g_Store_init : DefG := { ad := mtA "Store" "__init__", name := "__init__", qual := "Store.__init__", params := defArgs s_Store_init, body := defBody s_Store_init, scope := defScope s_Store_init, kwd := [("bound", Dv.int 50)] }
abbrev s_Store_mixing : Stmt := inClass (top 63) 1
def g_Store_mixing : DefG := { ad := gtA "Store" "mixing", name := "mixing", qual := "Store.mixing", params := defArgs s_Store_mixing, body := defBody s_Store_mixing, scope := defScope s_Store_mixing }
abbrev s_Store_hosts : Stmt := inClass (top 63) 2
def g_Store_hosts : DefG := { ad := gtA "Store" "hosts", name := "hosts", qual := "Store.hosts", params := defArgs s_Store_hosts, body := defBody s_Store_hosts, scope := defScope s_Store_hosts }
abbrev s_Store_bound : Stmt := inClass (top 63) 3
def g_Store_bound : DefG := { ad := gtA "Store" "bound", name := "bound", qual := "Store.bound", params := defArgs s_Store_bound, body := defBody s_Store_bound, scope := defScope s_Store_bound }
abbrev s_Store_moment : Stmt := inClass (top 63) 4
def g_Store_moment : DefG := { ad := gtA "Store" "moment", name := "moment", qual := "Store.moment", params := defArgs s_Store_moment, body := defBody s_Store_moment, scope := defScope s_Store_moment }
abbrev s_Store_new_shard : Stmt := inClass (top 63) 5
def g_Store_new_shard : DefG := { ad := mtA "Store" "new_shard", name := "new_shard", qual := "Store.new_shard", params := defArgs s_Store_new_shard, body := defBody s_Store_new_shard, scope := defScope s_Store_new_shard }
abbrev s_Store_close_record : Stmt := inClass (top 63) 6
def g_Store_close_record : DefG := { ad := mtA "Store" "close_record", name := "close_record", qual := "Store.close_record", params := defArgs s_Store_close_record, body := defBody s_Store_close_record, scope := defScope s_Store_close_record }
abbrev s_Store_in_order : Stmt := inClass (top 63) 7
def g_Store_in_order : DefG := { ad := mtA "Store" "in_order", name := "in_order", qual := "Store.in_order", params := defArgs s_Store_in_order, body := defBody s_Store_in_order, scope := defScope s_Store_in_order }
abbrev s_Store_shard_at : Stmt := inClass (top 63) 8
def g_Store_shard_at : DefG := { ad := mtA "Store" "shard_at", name := "shard_at", qual := "Store.shard_at", params := defArgs s_Store_shard_at, body := defBody s_Store_shard_at, scope := defScope s_Store_shard_at }
abbrev s_Store_is_down : Stmt := inClass (top 63) 9
def g_Store_is_down : DefG := { ad := mtA "Store" "is_down", name := "is_down", qual := "Store.is_down", params := defArgs s_Store_is_down, body := defBody s_Store_is_down, scope := defScope s_Store_is_down }
abbrev s_Store_known : Stmt := inClass (top 63) 10
def g_Store_known : DefG := { ad := mtA "Store" "known", name := "known", qual := "Store.known", params := defArgs s_Store_known, body := defBody s_Store_known, scope := defScope s_Store_known }
abbrev s_Store_known_up : Stmt := inClass (top 63) 11
def g_Store_known_up : DefG := { ad := mtA "Store" "known_up", name := "known_up", qual := "Store.known_up", params := defArgs s_Store_known_up, body := defBody s_Store_known_up, scope := defScope s_Store_known_up }
abbrev s_Store_free : Stmt := inClass (top 63) 12
def g_Store_free : DefG := { ad := mtA "Store" "free", name := "free", qual := "Store.free", params := defArgs s_Store_free, body := defBody s_Store_free, scope := defScope s_Store_free }
abbrev s_Store_copying : Stmt := inClass (top 63) 13
def g_Store_copying : DefG := { ad := mtA "Store" "copying", name := "copying", qual := "Store.copying", params := defArgs s_Store_copying, body := defBody s_Store_copying, scope := defScope s_Store_copying }
abbrev s_Store_getitem : Stmt := inClass (top 63) 14
def g_Store_getitem : DefG := { ad := mtA "Store" "__getitem__", name := "__getitem__", qual := "Store.__getitem__", params := defArgs s_Store_getitem, body := defBody s_Store_getitem, scope := defScope s_Store_getitem }
abbrev s_Store_setitem : Stmt := inClass (top 63) 15
def g_Store_setitem : DefG := { ad := mtA "Store" "__setitem__", name := "__setitem__", qual := "Store.__setitem__", params := defArgs s_Store_setitem, body := defBody s_Store_setitem, scope := defScope s_Store_setitem }
abbrev s_Store_iter : Stmt := inClass (top 63) 16
def g_Store_iter : DefG := { ad := mtA "Store" "__iter__", name := "__iter__", qual := "Store.__iter__", params := defArgs s_Store_iter, body := defBody s_Store_iter, scope := defScope s_Store_iter }
abbrev s_Store_contains : Stmt := inClass (top 63) 17
def g_Store_contains : DefG := { ad := mtA "Store" "__contains__", name := "__contains__", qual := "Store.__contains__", params := defArgs s_Store_contains, body := defBody s_Store_contains, scope := defScope s_Store_contains }
abbrev s_Store_len : Stmt := inClass (top 63) 18
def g_Store_len : DefG := { ad := mtA "Store" "__len__", name := "__len__", qual := "Store.__len__", params := defArgs s_Store_len, body := defBody s_Store_len, scope := defScope s_Store_len }
abbrev s_Store_write : Stmt := inClass (top 63) 19
def g_Store_write : DefG := { ad := mtA "Store" "write", name := "write", qual := "Store.write", params := defArgs s_Store_write, body := defBody s_Store_write, scope := defScope s_Store_write }
abbrev s_Store_delete : Stmt := inClass (top 63) 20
def g_Store_delete : DefG := { ad := mtA "Store" "delete", name := "delete", qual := "Store.delete", params := defArgs s_Store_delete, body := defBody s_Store_delete, scope := defScope s_Store_delete }
abbrev s_Store_rows : Stmt := inClass (top 63) 21
def g_Store_rows : DefG := { ad := mtA "Store" "rows", name := "rows", qual := "Store.rows", params := defArgs s_Store_rows, body := defBody s_Store_rows, scope := defScope s_Store_rows }
abbrev s_Store_content_at : Stmt := inClass (top 63) 22
def g_Store_content_at : DefG := { ad := mtA "Store" "content_at", name := "content_at", qual := "Store.content_at", params := defArgs s_Store_content_at, body := defBody s_Store_content_at, scope := defScope s_Store_content_at }
abbrev s_Store_value_at : Stmt := inClass (top 63) 23
def g_Store_value_at : DefG := { ad := mtA "Store" "value_at", name := "value_at", qual := "Store.value_at", params := defArgs s_Store_value_at, body := defBody s_Store_value_at, scope := defScope s_Store_value_at }
abbrev s_Store_rows_at : Stmt := inClass (top 63) 24
def g_Store_rows_at : DefG := { ad := mtA "Store" "rows_at", name := "rows_at", qual := "Store.rows_at", params := defArgs s_Store_rows_at, body := defBody s_Store_rows_at, scope := defScope s_Store_rows_at }
abbrev s_Store_shards : Stmt := inClass (top 63) 25
def g_Store_shards : DefG := { ad := mtA "Store" "shards", name := "shards", qual := "Store.shards", params := defArgs s_Store_shards, body := defBody s_Store_shards, scope := defScope s_Store_shards }
abbrev s_Store_records : Stmt := inClass (top 63) 26
def g_Store_records : DefG := { ad := mtA "Store" "records", name := "records", qual := "Store.records", params := defArgs s_Store_records, body := defBody s_Store_records, scope := defScope s_Store_records }
abbrev s_Store_log_of : Stmt := inClass (top 63) 27
def g_Store_log_of : DefG := { ad := mtA "Store" "log_of", name := "log_of", qual := "Store.log_of", params := defArgs s_Store_log_of, body := defBody s_Store_log_of, scope := defScope s_Store_log_of }
abbrev s_Store_split : Stmt := inClass (top 63) 28
def g_Store_split : DefG := { ad := mtA "Store" "split", name := "split", qual := "Store.split", params := defArgs s_Store_split, body := defBody s_Store_split, scope := defScope s_Store_split }
abbrev s_Store_merge : Stmt := inClass (top 63) 29
def g_Store_merge : DefG := { ad := mtA "Store" "merge", name := "merge", qual := "Store.merge", params := defArgs s_Store_merge, body := defBody s_Store_merge, scope := defScope s_Store_merge }
abbrev s_Store_renewed : Stmt := inClass (top 63) 30
def g_Store_renewed : DefG := { ad := mtA "Store" "renewed", name := "renewed", qual := "Store.renewed", params := defArgs s_Store_renewed, body := defBody s_Store_renewed, scope := defScope s_Store_renewed }
abbrev s_Store_begin_move : Stmt := inClass (top 63) 31
def g_Store_begin_move : DefG := { ad := mtA "Store" "begin_move", name := "begin_move", qual := "Store.begin_move", params := defArgs s_Store_begin_move, body := defBody s_Store_begin_move, scope := defScope s_Store_begin_move }
abbrev s_Store_copy : Stmt := inClass (top 63) 32
def g_Store_copy : DefG := { ad := mtA "Store" "copy", name := "copy", qual := "Store.copy", params := defArgs s_Store_copy, body := defBody s_Store_copy, scope := defScope s_Store_copy }
abbrev s_Store_hand_over : Stmt := inClass (top 63) 33
def g_Store_hand_over : DefG := { ad := mtA "Store" "hand_over", name := "hand_over", qual := "Store.hand_over", params := defArgs s_Store_hand_over, body := defBody s_Store_hand_over, scope := defScope s_Store_hand_over }
abbrev s_Store_end_move : Stmt := inClass (top 63) 34
def g_Store_end_move : DefG := { ad := mtA "Store" "end_move", name := "end_move", qual := "Store.end_move", params := defArgs s_Store_end_move, body := defBody s_Store_end_move, scope := defScope s_Store_end_move }
abbrev s_Store_abort : Stmt := inClass (top 63) 35
def g_Store_abort : DefG := { ad := mtA "Store" "abort", name := "abort", qual := "Store.abort", params := defArgs s_Store_abort, body := defBody s_Store_abort, scope := defScope s_Store_abort }
abbrev s_Store_moves : Stmt := inClass (top 63) 36
def g_Store_moves : DefG := { ad := mtA "Store" "moves", name := "moves", qual := "Store.moves", params := defArgs s_Store_moves, body := defBody s_Store_moves, scope := defScope s_Store_moves }
abbrev s_Store_copy_rows : Stmt := inClass (top 63) 37
def g_Store_copy_rows : DefG := { ad := mtA "Store" "copy_rows", name := "copy_rows", qual := "Store.copy_rows", params := defArgs s_Store_copy_rows, body := defBody s_Store_copy_rows, scope := defScope s_Store_copy_rows }
abbrev s_Store_is_up : Stmt := inClass (top 63) 38
def g_Store_is_up : DefG := { ad := mtA "Store" "is_up", name := "is_up", qual := "Store.is_up", params := defArgs s_Store_is_up, body := defBody s_Store_is_up, scope := defScope s_Store_is_up }
abbrev s_Store_crash : Stmt := inClass (top 63) 39
def g_Store_crash : DefG := { ad := mtA "Store" "crash", name := "crash", qual := "Store.crash", params := defArgs s_Store_crash, body := defBody s_Store_crash, scope := defScope s_Store_crash }
abbrev s_Store_recover : Stmt := inClass (top 63) 40
def g_Store_recover : DefG := { ad := mtA "Store" "recover", name := "recover", qual := "Store.recover", params := defArgs s_Store_recover, body := defBody s_Store_recover, scope := defScope s_Store_recover }
abbrev s_Store_journal : Stmt := inClass (top 63) 41
def g_Store_journal : DefG := { ad := mtA "Store" "journal", name := "journal", qual := "Store.journal", params := defArgs s_Store_journal, body := defBody s_Store_journal, scope := defScope s_Store_journal }
abbrev s_Store_checkpoint : Stmt := inClass (top 63) 42
def g_Store_checkpoint : DefG := { ad := mtA "Store" "checkpoint", name := "checkpoint", qual := "Store.checkpoint", params := defArgs s_Store_checkpoint, body := defBody s_Store_checkpoint, scope := defScope s_Store_checkpoint }
abbrev s_Store_run_move : Stmt := inClass (top 63) 43
def g_Store_run_move : DefG := { ad := mtA "Store" "run_move", name := "run_move", qual := "Store.run_move", params := defArgs s_Store_run_move, body := defBody s_Store_run_move, scope := defScope s_Store_run_move }
abbrev s_Records_init : Stmt := inClass (top 72) 0
def g_Records_init : DefG := { ad := mtA "Records" "__init__", name := "__init__", qual := "Records.__init__", params := defArgs s_Records_init, body := defBody s_Records_init, scope := defScope s_Records_init }
abbrev s_Records_mixing : Stmt := inClass (top 72) 1
def g_Records_mixing : DefG := { ad := gtA "Records" "mixing", name := "mixing", qual := "Records.mixing", params := defArgs s_Records_mixing, body := defBody s_Records_mixing, scope := defScope s_Records_mixing }
abbrev s_Records_periods : Stmt := inClass (top 72) 2
def g_Records_periods : DefG := { ad := mtA "Records" "periods", name := "periods", qual := "Records.periods", params := defArgs s_Records_periods, body := defBody s_Records_periods, scope := defScope s_Records_periods }
abbrev s_Records_len : Stmt := inClass (top 72) 3
def g_Records_len : DefG := { ad := mtA "Records" "__len__", name := "__len__", qual := "Records.__len__", params := defArgs s_Records_len, body := defBody s_Records_len, scope := defScope s_Records_len }
abbrev s_Records_eq : Stmt := inClass (top 72) 4
def g_Records_eq : DefG := { ad := mtA "Records" "__eq__", name := "__eq__", qual := "Records.__eq__", params := defArgs s_Records_eq, body := defBody s_Records_eq, scope := defScope s_Records_eq }
abbrev s_Records_fault : Stmt := inClass (top 72) 5
def g_Records_fault : DefG := { ad := mtA "Records" "fault", name := "fault", qual := "Records.fault", params := defArgs s_Records_fault, body := defBody s_Records_fault, scope := defScope s_Records_fault }
abbrev s_Records_old_epochs : Stmt := inClass (top 72) 6
def g_Records_old_epochs : DefG := { ad := mtA "Records" "old_epochs", name := "old_epochs", qual := "Records.old_epochs", params := defArgs s_Records_old_epochs, body := defBody s_Records_old_epochs, scope := defScope s_Records_old_epochs }
abbrev s_Records_owner_at : Stmt := inClass (top 72) 7
def g_Records_owner_at : DefG := { ad := mtA "Records" "owner_at", name := "owner_at", qual := "Records.owner_at", params := defArgs s_Records_owner_at, body := defBody s_Records_owner_at, scope := defScope s_Records_owner_at }
abbrev s_Records_tells : Stmt := inClass (top 72) 8
def g_Records_tells : DefG := { ad := mtA "Records" "tells", name := "tells", qual := "Records.tells", params := defArgs s_Records_tells, body := defBody s_Records_tells, scope := defScope s_Records_tells }
/-- what the top has written -/
structure Txt (K : Frag) (mg : Str → Option Value) : Prop where
  d_is_integer : Stands K g_is_integer
  d_in_range : Stands K g_in_range
  d_check_number : Stands K g_check_number
  d_check_least : Stands K g_check_least
  d_is_key : Stands K g_is_key
  d_check_mixing : Stands K g_check_mixing
  d_is_point : Stands K g_is_point
  d_check_point : Stands K g_check_point
  d_check_arc : Stands K g_check_arc
  d_is_name : Stands K g_is_name
  d_check_store : Stands K g_check_store
  d_is_positive : Stands K g_is_positive
  d_is_count : Stands K g_is_count
  d_is_period : Stands K g_is_period
  d_check_records : Stands K g_check_records
  d_records_of : Stands K g_records_of
  d_receipt_fault : Stands K g_receipt_fault
  d_check_receipts : Stands K g_check_receipts
  d_listing_fault : Stands K g_listing_fault
  d_is_listing : Stands K g_is_listing
  d_missing_parts : Stands K g_missing_parts
  d__law_hand : Stands K g__law_hand
  d__law_draw : Stands K g__law_draw
  d__law_call : Stands K g__law_call
  d__law_told : Stands K g__law_told
  d__law_owner_told : Stands K g__law_owner_told
  d__law_bad_periods : Stands K g__law_bad_periods
  d_law : Stands K g_law
  d_InvalidNumber_init : Stands K g_InvalidNumber_init
  d_InvalidMixing_init : Stands K g_InvalidMixing_init
  d_InvalidPoint_init : Stands K g_InvalidPoint_init
  d_InvalidArc_init : Stands K g_InvalidArc_init
  d_InvalidStore_init : Stands K g_InvalidStore_init
  d_InvalidRecords_init : Stands K g_InvalidRecords_init
  d_InvalidReceipts_init : Stands K g_InvalidReceipts_init
  d_Mixing_init : Stands K g_Mixing_init
  d_Arc_init : Stands K g_Arc_init
  d_Records_init : Stands K g_Records_init
  d_Records_owner_at : Stands K g_Records_owner_at
  m_is_integer : mg "is_integer" = some (.ref (ga K "is_integer"))
  m_in_range : mg "in_range" = some (.ref (ga K "in_range"))
  m_check_number : mg "check_number" = some (.ref (ga K "check_number"))
  m_check_least : mg "check_least" = some (.ref (ga K "check_least"))
  m_is_key : mg "is_key" = some (.ref (ga K "is_key"))
  m_check_mixing : mg "check_mixing" = some (.ref (ga K "check_mixing"))
  m_is_point : mg "is_point" = some (.ref (ga K "is_point"))
  m_check_point : mg "check_point" = some (.ref (ga K "check_point"))
  m_check_arc : mg "check_arc" = some (.ref (ga K "check_arc"))
  m_is_name : mg "is_name" = some (.ref (ga K "is_name"))
  m_check_store : mg "check_store" = some (.ref (ga K "check_store"))
  m_is_positive : mg "is_positive" = some (.ref (ga K "is_positive"))
  m_is_count : mg "is_count" = some (.ref (ga K "is_count"))
  m_is_period : mg "is_period" = some (.ref (ga K "is_period"))
  m_check_records : mg "check_records" = some (.ref (ga K "check_records"))
  m_records_of : mg "records_of" = some (.ref (ga K "records_of"))
  m_receipt_fault : mg "receipt_fault" = some (.ref (ga K "receipt_fault"))
  m_check_receipts : mg "check_receipts" = some (.ref (ga K "check_receipts"))
  m_listing_fault : mg "listing_fault" = some (.ref (ga K "listing_fault"))
  m_is_listing : mg "is_listing" = some (.ref (ga K "is_listing"))
  m_missing_parts : mg "missing_parts" = some (.ref (ga K "missing_parts"))
  m__law_hand : mg "_law_hand" = some (.ref (ga K "_law_hand"))
  m__law_draw : mg "_law_draw" = some (.ref (ga K "_law_draw"))
  m__law_call : mg "_law_call" = some (.ref (ga K "_law_call"))
  m__law_told : mg "_law_told" = some (.ref (ga K "_law_told"))
  m__law_owner_told : mg "_law_owner_told" = some (.ref (ga K "_law_owner_told"))
  m__law_bad_periods : mg "_law_bad_periods" = some (.ref (ga K "_law_bad_periods"))
  m_law : mg "law" = some (.ref (ga K "law"))
  m_InvalidNumber : mg "InvalidNumber" = some (.ref (ga K "InvalidNumber"))
  m_InvalidMixing : mg "InvalidMixing" = some (.ref (ga K "InvalidMixing"))
  m_InvalidPoint : mg "InvalidPoint" = some (.ref (ga K "InvalidPoint"))
  m_InvalidArc : mg "InvalidArc" = some (.ref (ga K "InvalidArc"))
  m_InvalidStore : mg "InvalidStore" = some (.ref (ga K "InvalidStore"))
  m_InvalidRecords : mg "InvalidRecords" = some (.ref (ga K "InvalidRecords"))
  m_InvalidReceipts : mg "InvalidReceipts" = some (.ref (ga K "InvalidReceipts"))
  m_Mixing : mg "Mixing" = some (.ref (ga K "Mixing"))
  c_Mixing : Cls K (ga K "Mixing")
  k_Mixing : Mk K (ga K "Mixing") (ma K (ga K "Mixing") "__init__")
  n_Mixing_own_base : NoAttr K (ga K "Mixing") "own_base"
  n_Mixing_own_bits : NoAttr K (ga K "Mixing") "own_bits"
  m_Arc : mg "Arc" = some (.ref (ga K "Arc"))
  c_Arc : Cls K (ga K "Arc")
  k_Arc : Mk K (ga K "Arc") (ma K (ga K "Arc") "__init__")
  n_Arc_own_start : NoAttr K (ga K "Arc") "own_start"
  n_Arc_own_end : NoAttr K (ga K "Arc") "own_end"
  m_Store : mg "Store" = some (.ref (ga K "Store"))
  m_Records : mg "Records" = some (.ref (ga K "Records"))
  c_Records : Cls K (ga K "Records")
  k_Records : Mk K (ga K "Records") (ma K (ga K "Records") "__init__")
  n_Records_own_mixing : NoAttr K (ga K "Records") "own_mixing"
  n_Records_own_periods : NoAttr K (ga K "Records") "own_periods"
  e_Records_owner_at : Meth K (ga K "Records") "owner_at" (ma K (ga K "Records") "owner_at")
  v_MAX_BASE : ∃ t, mg "MAX_BASE" = some (.int 1000 t)
  v_MAX_BITS : ∃ t, mg "MAX_BITS" = some (.int 32 t)
  v_MAX_NUMBER : ∃ t, mg "MAX_NUMBER" = some (.int 4294967296 t)
  v_MAX_LENGTH : ∃ t, mg "MAX_LENGTH" = some (.int 20 t)
  v_BEHIND : ∃ t, mg "BEHIND" = some (.str "!" t)
  v_CHARACTERS : ∃ t, mg "CHARACTERS" = some (.str "abcdefghijklmnopqrstuvwxyz0123456789" t)
  v_MAX_NAME : ∃ t, mg "MAX_NAME" = some (.int 8 t)
  v_LETTERS : ∃ t, mg "LETTERS" = some (.str "abcdefghijklmnopqrstuvwxyz" t)
  b_ValueError : mg "ValueError" = none
  b_all : mg "all" = none
  b_bool : mg "bool" = none
  b_enumerate : mg "enumerate" = none
  b_int : mg "int" = none
  b_isinstance : mg "isinstance" = none
  b_len : mg "len" = none
  b_list : mg "list" = none
  b_max : mg "max" = none
  b_min : mg "min" = none
  b_range : mg "range" = none
  b_repr : mg "repr" = none
  b_str : mg "str" = none
  b_tuple : mg "tuple" = none
  r_InvalidNumber : ExcT K mg "InvalidNumber"
  xc_InvalidNumber : ExcC K (ga K "InvalidNumber")
  xf_InvalidNumber : XfC K (ga K "InvalidNumber")
  xn_InvalidNumber_value : PySem.W.findIn K (.ref (ga K "InvalidNumber")) "value" = some none
  xk_InvalidNumber : PySem.W.kitOne K (.ref (ga K "InvalidNumber")) (.type "ValueError") = some true
  em_InvalidNumber_InvalidPoint : PySem.W.exmOne K (.ref (ga K "InvalidNumber")) (.ref (ga K "InvalidPoint")) = some false
  em_InvalidNumber_InvalidNumber : PySem.W.exmOne K (.ref (ga K "InvalidNumber")) (.ref (ga K "InvalidNumber")) = some true
  r_InvalidMixing : ExcT K mg "InvalidMixing"
  xc_InvalidMixing : ExcC K (ga K "InvalidMixing")
  xf_InvalidMixing : XfC K (ga K "InvalidMixing")
  xn_InvalidMixing_value : PySem.W.findIn K (.ref (ga K "InvalidMixing")) "value" = some none
  xk_InvalidMixing : PySem.W.kitOne K (.ref (ga K "InvalidMixing")) (.type "ValueError") = some true
  em_InvalidMixing_InvalidMixing : PySem.W.exmOne K (.ref (ga K "InvalidMixing")) (.ref (ga K "InvalidMixing")) = some true
  r_InvalidPoint : ExcT K mg "InvalidPoint"
  xc_InvalidPoint : ExcC K (ga K "InvalidPoint")
  xf_InvalidPoint : XfC K (ga K "InvalidPoint")
  xn_InvalidPoint_value : PySem.W.findIn K (.ref (ga K "InvalidPoint")) "value" = some none
  xk_InvalidPoint : PySem.W.kitOne K (.ref (ga K "InvalidPoint")) (.type "ValueError") = some true
  em_InvalidPoint_InvalidPoint : PySem.W.exmOne K (.ref (ga K "InvalidPoint")) (.ref (ga K "InvalidPoint")) = some true
  r_InvalidArc : ExcT K mg "InvalidArc"
  xc_InvalidArc : ExcC K (ga K "InvalidArc")
  xf_InvalidArc : XfC K (ga K "InvalidArc")
  xn_InvalidArc_first : PySem.W.findIn K (.ref (ga K "InvalidArc")) "first" = some none
  xn_InvalidArc_second : PySem.W.findIn K (.ref (ga K "InvalidArc")) "second" = some none
  xk_InvalidArc : PySem.W.kitOne K (.ref (ga K "InvalidArc")) (.type "ValueError") = some true
  em_InvalidArc_InvalidMixing : PySem.W.exmOne K (.ref (ga K "InvalidArc")) (.ref (ga K "InvalidMixing")) = some false
  em_InvalidArc_InvalidRecords : PySem.W.exmOne K (.ref (ga K "InvalidArc")) (.ref (ga K "InvalidRecords")) = some false
  em_InvalidArc_InvalidReceipts : PySem.W.exmOne K (.ref (ga K "InvalidArc")) (.ref (ga K "InvalidReceipts")) = some false
  em_InvalidArc_InvalidArc : PySem.W.exmOne K (.ref (ga K "InvalidArc")) (.ref (ga K "InvalidArc")) = some true
  r_InvalidStore : ExcT K mg "InvalidStore"
  xc_InvalidStore : ExcC K (ga K "InvalidStore")
  xf_InvalidStore : XfC K (ga K "InvalidStore")
  xn_InvalidStore_value : PySem.W.findIn K (.ref (ga K "InvalidStore")) "value" = some none
  xk_InvalidStore : PySem.W.kitOne K (.ref (ga K "InvalidStore")) (.type "ValueError") = some true
  em_InvalidStore_InvalidMixing : PySem.W.exmOne K (.ref (ga K "InvalidStore")) (.ref (ga K "InvalidMixing")) = some false
  em_InvalidStore_InvalidRecords : PySem.W.exmOne K (.ref (ga K "InvalidStore")) (.ref (ga K "InvalidRecords")) = some false
  em_InvalidStore_InvalidReceipts : PySem.W.exmOne K (.ref (ga K "InvalidStore")) (.ref (ga K "InvalidReceipts")) = some false
  em_InvalidStore_InvalidArc : PySem.W.exmOne K (.ref (ga K "InvalidStore")) (.ref (ga K "InvalidArc")) = some false
  em_InvalidStore_InvalidStore : PySem.W.exmOne K (.ref (ga K "InvalidStore")) (.ref (ga K "InvalidStore")) = some true
  r_InvalidRecords : ExcT K mg "InvalidRecords"
  xc_InvalidRecords : ExcC K (ga K "InvalidRecords")
  xf_InvalidRecords : XfC K (ga K "InvalidRecords")
  xn_InvalidRecords_position : PySem.W.findIn K (.ref (ga K "InvalidRecords")) "position" = some none
  xk_InvalidRecords : PySem.W.kitOne K (.ref (ga K "InvalidRecords")) (.type "ValueError") = some true
  em_InvalidRecords_InvalidMixing : PySem.W.exmOne K (.ref (ga K "InvalidRecords")) (.ref (ga K "InvalidMixing")) = some false
  em_InvalidRecords_InvalidRecords : PySem.W.exmOne K (.ref (ga K "InvalidRecords")) (.ref (ga K "InvalidRecords")) = some true
  r_InvalidReceipts : ExcT K mg "InvalidReceipts"
  xc_InvalidReceipts : ExcC K (ga K "InvalidReceipts")
  xf_InvalidReceipts : XfC K (ga K "InvalidReceipts")
  xn_InvalidReceipts_position : PySem.W.findIn K (.ref (ga K "InvalidReceipts")) "position" = some none
  xk_InvalidReceipts : PySem.W.kitOne K (.ref (ga K "InvalidReceipts")) (.type "ValueError") = some true
  em_InvalidReceipts_InvalidMixing : PySem.W.exmOne K (.ref (ga K "InvalidReceipts")) (.ref (ga K "InvalidMixing")) = some false
  em_InvalidReceipts_InvalidRecords : PySem.W.exmOne K (.ref (ga K "InvalidReceipts")) (.ref (ga K "InvalidRecords")) = some false
  em_InvalidReceipts_InvalidReceipts : PySem.W.exmOne K (.ref (ga K "InvalidReceipts")) (.ref (ga K "InvalidReceipts")) = some true
  o_Mixing : OwnC K (ga K "Mixing")
  q_Mixing : OwnK K (ga K "Mixing")
  o_Arc : OwnC K (ga K "Arc")
  q_Arc : OwnK K (ga K "Arc")
  q_Store : OwnK K (ga K "Store")
  o_Records : OwnC K (ga K "Records")
  q_Records : OwnK K (ga K "Records")
  u_Store_in_order_Store_records : (cTA K (mtA "Store" "in_order")).2 ≠ (cTA K (mtA "Store" "records")).2
  t_Store_in_order : CodeV K ((mtA "Store" "in_order") K) = .ref (codeA K ((mtA "Store" "in_order") K))
  t_Store_records : CodeV K ((mtA "Store" "records") K) = .ref (codeA K ((mtA "Store" "records") K))
def tf : List (Frag → Addr) := [mtA "Store" "in_order", mtA "Store" "records"]
/-- the tables and the names of their lambdas -/
def TL (K : Frag) : List (Addr × Str) := [((cTA K (mtA "Store" "in_order")).2, qOf g_Store_in_order), ((cTA K (mtA "Store" "records")).2, qOf g_Store_records)]
theorem tu_Store_in_order {K : Frag} {mg : Str → Option Value} (T : Txt K mg) : ∀ p ∈ TL K, p.1 = (cTA K (mtA "Store" "in_order")).2 → p.2 = qOf g_Store_in_order := by
  intro p hp e
  simp only [TL, List.mem_cons, List.not_mem_nil, or_false] at hp
  rcases hp with rfl | rfl
  · rfl
  · exact absurd e T.u_Store_in_order_Store_records.symm
theorem tu_Store_records {K : Frag} {mg : Str → Option Value} (T : Txt K mg) : ∀ p ∈ TL K, p.1 = (cTA K (mtA "Store" "records")).2 → p.2 = qOf g_Store_records := by
  intro p hp e
  simp only [TL, List.mem_cons, List.not_mem_nil, or_false] at hp
  rcases hp with rfl | rfl
  · exact absurd e T.u_Store_in_order_Store_records
  · rfl
theorem tabs0 {K : Frag} {H : Hp} (h : ∀ p ∈ tf.map (cTA K), H p.2 = some (.tbl #[])) : LamX.Tabs (TL K) H := by
  intro p hp
  simp only [TL, List.mem_cons, List.not_mem_nil, or_false] at hp
  rcases hp with rfl | rfl
  · exact LamX.TabS.nil (h _ (List.mem_map.mpr ⟨_, List.mem_of_getElem? (i := 0) rfl, rfl⟩))
  · exact LamX.TabS.nil (h _ (List.mem_map.mpr ⟨_, List.mem_of_getElem? (i := 1) rfl, rfl⟩))
/-- the tables -/
abbrev Tb (K : Frag) (mg : Str → Option Value) (base : Heap) : Prop := Tbs base mg (tf.map (cTA K))

set_option maxHeartbeats 0
def fa0 : List Fa := [.glo "is_integer", .glo "in_range", .glo "check_number", .glo "check_least", .glo "is_key", .glo "check_mixing", .glo "is_point", .glo "check_point", .glo "check_arc", .glo "is_name", .glo "check_store", .glo "is_positive", .glo "is_count", .glo "is_period", .glo "check_records", .glo "records_of", .glo "receipt_fault", .glo "check_receipts", .glo "listing_fault", .glo "is_listing", .glo "missing_parts", .glo "_law_hand", .glo "_law_draw", .glo "_law_call", .glo "_law_told", .glo "_law_owner_told", .glo "_law_bad_periods", .glo "law", .glo "InvalidNumber", .glo "InvalidMixing", .glo "InvalidPoint", .glo "InvalidArc", .glo "InvalidStore", .glo "InvalidRecords", .glo "InvalidReceipts", .glo "Mixing", .cls "Mixing", .mkr "Mixing", .noat "Mixing" "own_base", .noat "Mixing" "own_bits", .glo "Arc", .cls "Arc", .mkr "Arc", .noat "Arc" "own_start", .noat "Arc" "own_end", .glo "Store", .glo "Records", .cls "Records", .mkr "Records", .noat "Records" "own_mixing", .noat "Records" "own_periods", .meth "Records" "owner_at", .int "MAX_BASE" 1000, .int "MAX_BITS" 32, .int "MAX_NUMBER" 4294967296, .int "MAX_LENGTH" 20, .str "BEHIND" "!", .str "CHARACTERS" "abcdefghijklmnopqrstuvwxyz0123456789", .int "MAX_NAME" 8, .str "LETTERS" "abcdefghijklmnopqrstuvwxyz", .free "ValueError", .free "all", .free "bool", .free "enumerate", .free "int", .free "isinstance", .free "len", .free "list", .free "max", .free "min", .free "range", .free "repr", .free "str", .free "tuple"]
def fa : List Fa := fa0
def fn0 : List DefG := [g_is_integer, g_in_range, g_check_number, g_check_least, g_is_key, g_check_mixing, g_is_point, g_check_point, g_check_arc, g_is_name, g_check_store, g_is_positive, g_is_count, g_is_period, g_check_records, g_records_of, g_receipt_fault, g_check_receipts, g_listing_fault, g_is_listing, g_missing_parts, g__law_hand, g__law_draw, g__law_call, g__law_told, g__law_owner_told, g__law_bad_periods, g_law, g_InvalidNumber_init, g_InvalidMixing_init, g_InvalidPoint_init, g_InvalidArc_init, g_InvalidStore_init, g_InvalidRecords_init, g_InvalidReceipts_init, g_Mixing_init, g_Arc_init, g_Records_init, g_Records_owner_at]
def fn : List DefG := fn0
def loose0 : List Str := ["_wall", "InvalidNumber", "InvalidKey", "InvalidMixing", "InvalidPoint", "InvalidArc", "InvalidArcs", "InvalidHosts", "InvalidHost", "InvalidStore", "MissingKey", "UnknownShard", "Forgotten", "NotMoving", "Unavailable", "InvalidRecords", "InvalidReceipts", "MAX_BASE", "MAX_BITS", "MAX_NUMBER", "MAX_LENGTH", "BEHIND", "CHARACTERS", "is_integer", "in_range", "check_number", "check_least", "is_key", "check_key", "mix_of"]
def loose1 : List Str := ["Mixing", "check_mixing", "place_of", "is_point", "check_point", "Arc", "split_at", "check_arc", "whole_line", "check_arcs", "tiling_fault", "cursor_of", "Receipt", "MAX_BOUND", "check_value", "Table", "ChangeLog", "log_with", "table_with", "undone", "Host", "MAX_HOSTS", "MAX_NAME", "LETTERS", "is_name", "check_hosts", "Shard", "Store", "check_store", "is_positive"]
def loose2 : List Str := ["is_count", "is_period", "holds_at", "is_inside", "uncovered", "Records", "check_records", "records_of", "has_form", "are_in_order", "is_whole", "receipt_fault", "check_receipts", "listing_fault", "is_listing", "missing_parts", "_law_hand", "_law_draw", "_law_call", "_law_told", "_law_owner_told", "_law_bad_periods"]
def loose : List Str := ((loose0 ++ loose1) ++ loose2)
def ex0 (K : Frag) : Bool := excTB .ve "InvalidNumber" K && (excCB "InvalidNumber" K && (xfB K (ga K "InvalidNumber") && (eqO (PySem.W.findIn K (.ref (ga K "InvalidNumber")) "value") (some none) && (decide (PySem.W.kitOne K (.ref (ga K "InvalidNumber")) (.type "ValueError") = some true) && (decide (PySem.W.exmOne K (.ref (ga K "InvalidNumber")) (.ref (ga K "InvalidPoint")) = some false) && (decide (PySem.W.exmOne K (.ref (ga K "InvalidNumber")) (.ref (ga K "InvalidNumber")) = some true) && (excTB .ve "InvalidMixing" K && (excCB "InvalidMixing" K && (xfB K (ga K "InvalidMixing") && (eqO (PySem.W.findIn K (.ref (ga K "InvalidMixing")) "value") (some none) && (decide (PySem.W.kitOne K (.ref (ga K "InvalidMixing")) (.type "ValueError") = some true) && (decide (PySem.W.exmOne K (.ref (ga K "InvalidMixing")) (.ref (ga K "InvalidMixing")) = some true) && (excTB .ve "InvalidPoint" K && (excCB "InvalidPoint" K && (xfB K (ga K "InvalidPoint") && (eqO (PySem.W.findIn K (.ref (ga K "InvalidPoint")) "value") (some none) && (decide (PySem.W.kitOne K (.ref (ga K "InvalidPoint")) (.type "ValueError") = some true) && (decide (PySem.W.exmOne K (.ref (ga K "InvalidPoint")) (.ref (ga K "InvalidPoint")) = some true) && (excTB .ve "InvalidArc" K && (excCB "InvalidArc" K && (xfB K (ga K "InvalidArc") && (eqO (PySem.W.findIn K (.ref (ga K "InvalidArc")) "first") (some none) && (eqO (PySem.W.findIn K (.ref (ga K "InvalidArc")) "second") (some none) && (decide (PySem.W.kitOne K (.ref (ga K "InvalidArc")) (.type "ValueError") = some true) && (decide (PySem.W.exmOne K (.ref (ga K "InvalidArc")) (.ref (ga K "InvalidMixing")) = some false) && (decide (PySem.W.exmOne K (.ref (ga K "InvalidArc")) (.ref (ga K "InvalidRecords")) = some false) && (decide (PySem.W.exmOne K (.ref (ga K "InvalidArc")) (.ref (ga K "InvalidReceipts")) = some false) && (decide (PySem.W.exmOne K (.ref (ga K "InvalidArc")) (.ref (ga K "InvalidArc")) = some true) && (excTB .ve "InvalidStore" K && (excCB "InvalidStore" K && (xfB K (ga K "InvalidStore") && (eqO (PySem.W.findIn K (.ref (ga K "InvalidStore")) "value") (some none) && (decide (PySem.W.kitOne K (.ref (ga K "InvalidStore")) (.type "ValueError") = some true) && (decide (PySem.W.exmOne K (.ref (ga K "InvalidStore")) (.ref (ga K "InvalidMixing")) = some false) && (decide (PySem.W.exmOne K (.ref (ga K "InvalidStore")) (.ref (ga K "InvalidRecords")) = some false) && (decide (PySem.W.exmOne K (.ref (ga K "InvalidStore")) (.ref (ga K "InvalidReceipts")) = some false) && (decide (PySem.W.exmOne K (.ref (ga K "InvalidStore")) (.ref (ga K "InvalidArc")) = some false) && (decide (PySem.W.exmOne K (.ref (ga K "InvalidStore")) (.ref (ga K "InvalidStore")) = some true) && (excTB .ve "InvalidRecords" K && (excCB "InvalidRecords" K && (xfB K (ga K "InvalidRecords") && (eqO (PySem.W.findIn K (.ref (ga K "InvalidRecords")) "position") (some none) && (decide (PySem.W.kitOne K (.ref (ga K "InvalidRecords")) (.type "ValueError") = some true) && (decide (PySem.W.exmOne K (.ref (ga K "InvalidRecords")) (.ref (ga K "InvalidMixing")) = some false) && (decide (PySem.W.exmOne K (.ref (ga K "InvalidRecords")) (.ref (ga K "InvalidRecords")) = some true) && (excTB .ve "InvalidReceipts" K && (excCB "InvalidReceipts" K && (xfB K (ga K "InvalidReceipts") && (eqO (PySem.W.findIn K (.ref (ga K "InvalidReceipts")) "position") (some none) && (decide (PySem.W.kitOne K (.ref (ga K "InvalidReceipts")) (.type "ValueError") = some true) && (decide (PySem.W.exmOne K (.ref (ga K "InvalidReceipts")) (.ref (ga K "InvalidMixing")) = some false) && (decide (PySem.W.exmOne K (.ref (ga K "InvalidReceipts")) (.ref (ga K "InvalidRecords")) = some false) && (decide (PySem.W.exmOne K (.ref (ga K "InvalidReceipts")) (.ref (ga K "InvalidReceipts")) = some true) && (ownCB "Mixing" K && (ownKB "Mixing" K && (ownCB "Arc" K && (ownKB "Arc" K && (ownKB "Store" K && (ownCB "Records" K && (ownKB "Records" K && (decide ((cTA K (mtA "Store" "in_order")).2 ≠ (cTA K (mtA "Store" "records")).2) && (true))))))))))))))))))))))))))))))))))))))))))))))))))))))))))))))
def ex : Frag → Bool := ex0
abbrev R : PySem.W.OpenRow := PySem.W.OpenLaw.row PySem.Challenge.rw_arccursors_k56_errors_of_records
abbrev hk : PySem.W.Hook := hookS fa ex fn tf
def ob (s : PySem.W.SharedT) : Ah.AlT := obsSF fa ex fn tf (HandSHeadRun.getT s)
theorem ob_eq (s : PySem.W.SharedT) : ob s = hk.obs s.abs := obsSF_ok s
theorem run0 (w : World) : HandSHeadRun.RunEq R (PySem.W.view R.prog [90]) (hookS [] (fun _ => true) [] tf) (fun s => obsSF [] (fun _ => true) [] tf (HandSHeadRun.getT s)) 20000 loose w := by
  intro os
  kernel_rfl
theorem lookF0 (w : World) : LookEq R (fun K => fa0.all fun f => f.ok K) 20000 w := by
  intro os
  kernel_rfl
theorem lookD0 (w : World) : LookEq R (fun K => fn0.all fun d => d.ok K) 20000 w := by
  intro os
  kernel_rfl
theorem lookV0 (w : World) : LookV R fn0 20000 w := by
  intro os
  kernel_rfl
theorem lookX0 (w : World) : LookEq R (ex0) 20000 w := by
  intro os
  kernel_rfl
theorem all_F (w : World) : LookEq R (fun K => fa.all fun x => x.ok K) 20000 w := by
  have h := lookF0 w
  have e : (fun K : Frag => fa.all fun x => x.ok K) = fun K => (fa0.all fun x => x.ok K) := by
    funext K
    show (fa0 : List _).all _ = _
    simp only [List.all_append]
  rw [e]
  exact h
theorem all_D (w : World) : LookEq R (fun K => fn.all fun x => x.ok K) 20000 w := by
  have h := lookD0 w
  have e : (fun K : Frag => fn.all fun x => x.ok K) = fun K => (fn0.all fun x => x.ok K) := by
    funext K
    show (fn0 : List _).all _ = _
    simp only [List.all_append]
  rw [e]
  exact h
theorem all_V (w : World) : LookV R fn 20000 w := lookV0 w
theorem all_X (w : World) : LookEq R ex 20000 w := lookX0 w
theorem run (w : World) : HandSHeadRun.RunEq R (PySem.W.view R.prog [90]) hk ob 20000 loose w := run_of (run0 w) ((all_F w).and ((all_X w).and (all_D w))) (all_V w)
theorem txt {K : Frag} {h : Heap} {mg : Str → Option Value} (X : K.In h) (G : h.Ns mainGlobals mg) (c : SaysG fa ex fn K) (t : TabF tf h K) : Txt K mg := by
  have w0 := c.more
  have m0 : ex0 K = true := w0
  unfold ex0 at m0
  obtain ⟨x0, m1⟩ := ba m0
  obtain ⟨x1, m2⟩ := ba m1
  obtain ⟨x2, m3⟩ := ba m2
  obtain ⟨x3, m4⟩ := ba m3
  obtain ⟨x4, m5⟩ := ba m4
  obtain ⟨x5, m6⟩ := ba m5
  obtain ⟨x6, m7⟩ := ba m6
  obtain ⟨x7, m8⟩ := ba m7
  obtain ⟨x8, m9⟩ := ba m8
  obtain ⟨x9, m10⟩ := ba m9
  obtain ⟨x10, m11⟩ := ba m10
  obtain ⟨x11, m12⟩ := ba m11
  obtain ⟨x12, m13⟩ := ba m12
  obtain ⟨x13, m14⟩ := ba m13
  obtain ⟨x14, m15⟩ := ba m14
  obtain ⟨x15, m16⟩ := ba m15
  obtain ⟨x16, m17⟩ := ba m16
  obtain ⟨x17, m18⟩ := ba m17
  obtain ⟨x18, m19⟩ := ba m18
  obtain ⟨x19, m20⟩ := ba m19
  obtain ⟨x20, m21⟩ := ba m20
  obtain ⟨x21, m22⟩ := ba m21
  obtain ⟨x22, m23⟩ := ba m22
  obtain ⟨x23, m24⟩ := ba m23
  obtain ⟨x24, m25⟩ := ba m24
  obtain ⟨x25, m26⟩ := ba m25
  obtain ⟨x26, m27⟩ := ba m26
  obtain ⟨x27, m28⟩ := ba m27
  obtain ⟨x28, m29⟩ := ba m28
  obtain ⟨x29, m30⟩ := ba m29
  obtain ⟨x30, m31⟩ := ba m30
  obtain ⟨x31, m32⟩ := ba m31
  obtain ⟨x32, m33⟩ := ba m32
  obtain ⟨x33, m34⟩ := ba m33
  obtain ⟨x34, m35⟩ := ba m34
  obtain ⟨x35, m36⟩ := ba m35
  obtain ⟨x36, m37⟩ := ba m36
  obtain ⟨x37, m38⟩ := ba m37
  obtain ⟨x38, m39⟩ := ba m38
  obtain ⟨x39, m40⟩ := ba m39
  obtain ⟨x40, m41⟩ := ba m40
  obtain ⟨x41, m42⟩ := ba m41
  obtain ⟨x42, m43⟩ := ba m42
  obtain ⟨x43, m44⟩ := ba m43
  obtain ⟨x44, m45⟩ := ba m44
  obtain ⟨x45, m46⟩ := ba m45
  obtain ⟨x46, m47⟩ := ba m46
  obtain ⟨x47, m48⟩ := ba m47
  obtain ⟨x48, m49⟩ := ba m48
  obtain ⟨x49, m50⟩ := ba m49
  obtain ⟨x50, m51⟩ := ba m50
  obtain ⟨x51, m52⟩ := ba m51
  obtain ⟨x52, m53⟩ := ba m52
  obtain ⟨x53, m54⟩ := ba m53
  obtain ⟨x54, m55⟩ := ba m54
  obtain ⟨x55, m56⟩ := ba m55
  obtain ⟨x56, m57⟩ := ba m56
  obtain ⟨x57, m58⟩ := ba m57
  obtain ⟨x58, m59⟩ := ba m58
  obtain ⟨x59, m60⟩ := ba m59
  obtain ⟨x60, m61⟩ := ba m60
  obtain ⟨x61, m62⟩ := ba m61
  exact {
    d_is_integer := c.def_ 0,
    d_in_range := c.def_ 1,
    d_check_number := c.def_ 2,
    d_check_least := c.def_ 3,
    d_is_key := c.def_ 4,
    d_check_mixing := c.def_ 5,
    d_is_point := c.def_ 6,
    d_check_point := c.def_ 7,
    d_check_arc := c.def_ 8,
    d_is_name := c.def_ 9,
    d_check_store := c.def_ 10,
    d_is_positive := c.def_ 11,
    d_is_count := c.def_ 12,
    d_is_period := c.def_ 13,
    d_check_records := c.def_ 14,
    d_records_of := c.def_ 15,
    d_receipt_fault := c.def_ 16,
    d_check_receipts := c.def_ 17,
    d_listing_fault := c.def_ 18,
    d_is_listing := c.def_ 19,
    d_missing_parts := c.def_ 20,
    d__law_hand := c.def_ 21,
    d__law_draw := c.def_ 22,
    d__law_call := c.def_ 23,
    d__law_told := c.def_ 24,
    d__law_owner_told := c.def_ 25,
    d__law_bad_periods := c.def_ 26,
    d_law := c.def_ 27,
    d_InvalidNumber_init := c.def_ 28,
    d_InvalidMixing_init := c.def_ 29,
    d_InvalidPoint_init := c.def_ 30,
    d_InvalidArc_init := c.def_ 31,
    d_InvalidStore_init := c.def_ 32,
    d_InvalidRecords_init := c.def_ 33,
    d_InvalidReceipts_init := c.def_ 34,
    d_Mixing_init := c.def_ 35,
    d_Arc_init := c.def_ 36,
    d_Records_init := c.def_ 37,
    d_Records_owner_at := c.def_ 38,
    m_is_integer := glo_ok X G (c.fact 0 (f := .glo "is_integer")),
    m_in_range := glo_ok X G (c.fact 1 (f := .glo "in_range")),
    m_check_number := glo_ok X G (c.fact 2 (f := .glo "check_number")),
    m_check_least := glo_ok X G (c.fact 3 (f := .glo "check_least")),
    m_is_key := glo_ok X G (c.fact 4 (f := .glo "is_key")),
    m_check_mixing := glo_ok X G (c.fact 5 (f := .glo "check_mixing")),
    m_is_point := glo_ok X G (c.fact 6 (f := .glo "is_point")),
    m_check_point := glo_ok X G (c.fact 7 (f := .glo "check_point")),
    m_check_arc := glo_ok X G (c.fact 8 (f := .glo "check_arc")),
    m_is_name := glo_ok X G (c.fact 9 (f := .glo "is_name")),
    m_check_store := glo_ok X G (c.fact 10 (f := .glo "check_store")),
    m_is_positive := glo_ok X G (c.fact 11 (f := .glo "is_positive")),
    m_is_count := glo_ok X G (c.fact 12 (f := .glo "is_count")),
    m_is_period := glo_ok X G (c.fact 13 (f := .glo "is_period")),
    m_check_records := glo_ok X G (c.fact 14 (f := .glo "check_records")),
    m_records_of := glo_ok X G (c.fact 15 (f := .glo "records_of")),
    m_receipt_fault := glo_ok X G (c.fact 16 (f := .glo "receipt_fault")),
    m_check_receipts := glo_ok X G (c.fact 17 (f := .glo "check_receipts")),
    m_listing_fault := glo_ok X G (c.fact 18 (f := .glo "listing_fault")),
    m_is_listing := glo_ok X G (c.fact 19 (f := .glo "is_listing")),
    m_missing_parts := glo_ok X G (c.fact 20 (f := .glo "missing_parts")),
    m__law_hand := glo_ok X G (c.fact 21 (f := .glo "_law_hand")),
    m__law_draw := glo_ok X G (c.fact 22 (f := .glo "_law_draw")),
    m__law_call := glo_ok X G (c.fact 23 (f := .glo "_law_call")),
    m__law_told := glo_ok X G (c.fact 24 (f := .glo "_law_told")),
    m__law_owner_told := glo_ok X G (c.fact 25 (f := .glo "_law_owner_told")),
    m__law_bad_periods := glo_ok X G (c.fact 26 (f := .glo "_law_bad_periods")),
    m_law := glo_ok X G (c.fact 27 (f := .glo "law")),
    m_InvalidNumber := glo_ok X G (c.fact 28 (f := .glo "InvalidNumber")),
    m_InvalidMixing := glo_ok X G (c.fact 29 (f := .glo "InvalidMixing")),
    m_InvalidPoint := glo_ok X G (c.fact 30 (f := .glo "InvalidPoint")),
    m_InvalidArc := glo_ok X G (c.fact 31 (f := .glo "InvalidArc")),
    m_InvalidStore := glo_ok X G (c.fact 32 (f := .glo "InvalidStore")),
    m_InvalidRecords := glo_ok X G (c.fact 33 (f := .glo "InvalidRecords")),
    m_InvalidReceipts := glo_ok X G (c.fact 34 (f := .glo "InvalidReceipts")),
    m_Mixing := glo_ok X G (c.fact 35 (f := .glo "Mixing")),
    c_Mixing := cls_ok (c.fact 36 (f := .cls "Mixing")),
    k_Mixing := mkr_ok (c.fact 37 (f := .mkr "Mixing")),
    n_Mixing_own_base := noat_ok (c.fact 38 (f := .noat "Mixing" "own_base")),
    n_Mixing_own_bits := noat_ok (c.fact 39 (f := .noat "Mixing" "own_bits")),
    m_Arc := glo_ok X G (c.fact 40 (f := .glo "Arc")),
    c_Arc := cls_ok (c.fact 41 (f := .cls "Arc")),
    k_Arc := mkr_ok (c.fact 42 (f := .mkr "Arc")),
    n_Arc_own_start := noat_ok (c.fact 43 (f := .noat "Arc" "own_start")),
    n_Arc_own_end := noat_ok (c.fact 44 (f := .noat "Arc" "own_end")),
    m_Store := glo_ok X G (c.fact 45 (f := .glo "Store")),
    m_Records := glo_ok X G (c.fact 46 (f := .glo "Records")),
    c_Records := cls_ok (c.fact 47 (f := .cls "Records")),
    k_Records := mkr_ok (c.fact 48 (f := .mkr "Records")),
    n_Records_own_mixing := noat_ok (c.fact 49 (f := .noat "Records" "own_mixing")),
    n_Records_own_periods := noat_ok (c.fact 50 (f := .noat "Records" "own_periods")),
    e_Records_owner_at := meth_ok (c.fact 51 (f := .meth "Records" "owner_at")),
    v_MAX_BASE := int_ok X G (c.fact 52 (f := .int "MAX_BASE" 1000)),
    v_MAX_BITS := int_ok X G (c.fact 53 (f := .int "MAX_BITS" 32)),
    v_MAX_NUMBER := int_ok X G (c.fact 54 (f := .int "MAX_NUMBER" 4294967296)),
    v_MAX_LENGTH := int_ok X G (c.fact 55 (f := .int "MAX_LENGTH" 20)),
    v_BEHIND := str_ok X G (c.fact 56 (f := .str "BEHIND" "!")),
    v_CHARACTERS := str_ok X G (c.fact 57 (f := .str "CHARACTERS" "abcdefghijklmnopqrstuvwxyz0123456789")),
    v_MAX_NAME := int_ok X G (c.fact 58 (f := .int "MAX_NAME" 8)),
    v_LETTERS := str_ok X G (c.fact 59 (f := .str "LETTERS" "abcdefghijklmnopqrstuvwxyz")),
    b_ValueError := free_ok X G (c.fact 60 (f := .free "ValueError")),
    b_all := free_ok X G (c.fact 61 (f := .free "all")),
    b_bool := free_ok X G (c.fact 62 (f := .free "bool")),
    b_enumerate := free_ok X G (c.fact 63 (f := .free "enumerate")),
    b_int := free_ok X G (c.fact 64 (f := .free "int")),
    b_isinstance := free_ok X G (c.fact 65 (f := .free "isinstance")),
    b_len := free_ok X G (c.fact 66 (f := .free "len")),
    b_list := free_ok X G (c.fact 67 (f := .free "list")),
    b_max := free_ok X G (c.fact 68 (f := .free "max")),
    b_min := free_ok X G (c.fact 69 (f := .free "min")),
    b_range := free_ok X G (c.fact 70 (f := .free "range")),
    b_repr := free_ok X G (c.fact 71 (f := .free "repr")),
    b_str := free_ok X G (c.fact 72 (f := .free "str")),
    b_tuple := free_ok X G (c.fact 73 (f := .free "tuple")),
    r_InvalidNumber := excT_ok (glo_ok X G (c.fact 28 (f := .glo "InvalidNumber"))) x0,
    xc_InvalidNumber := excC_ok x1,
    xf_InvalidNumber := xfB_ok x2,
    xn_InvalidNumber_value := eqO_ok x3,
    xk_InvalidNumber := of_decide_eq_true x4,
    em_InvalidNumber_InvalidPoint := of_decide_eq_true x5,
    em_InvalidNumber_InvalidNumber := of_decide_eq_true x6,
    r_InvalidMixing := excT_ok (glo_ok X G (c.fact 29 (f := .glo "InvalidMixing"))) x7,
    xc_InvalidMixing := excC_ok x8,
    xf_InvalidMixing := xfB_ok x9,
    xn_InvalidMixing_value := eqO_ok x10,
    xk_InvalidMixing := of_decide_eq_true x11,
    em_InvalidMixing_InvalidMixing := of_decide_eq_true x12,
    r_InvalidPoint := excT_ok (glo_ok X G (c.fact 30 (f := .glo "InvalidPoint"))) x13,
    xc_InvalidPoint := excC_ok x14,
    xf_InvalidPoint := xfB_ok x15,
    xn_InvalidPoint_value := eqO_ok x16,
    xk_InvalidPoint := of_decide_eq_true x17,
    em_InvalidPoint_InvalidPoint := of_decide_eq_true x18,
    r_InvalidArc := excT_ok (glo_ok X G (c.fact 31 (f := .glo "InvalidArc"))) x19,
    xc_InvalidArc := excC_ok x20,
    xf_InvalidArc := xfB_ok x21,
    xn_InvalidArc_first := eqO_ok x22,
    xn_InvalidArc_second := eqO_ok x23,
    xk_InvalidArc := of_decide_eq_true x24,
    em_InvalidArc_InvalidMixing := of_decide_eq_true x25,
    em_InvalidArc_InvalidRecords := of_decide_eq_true x26,
    em_InvalidArc_InvalidReceipts := of_decide_eq_true x27,
    em_InvalidArc_InvalidArc := of_decide_eq_true x28,
    r_InvalidStore := excT_ok (glo_ok X G (c.fact 32 (f := .glo "InvalidStore"))) x29,
    xc_InvalidStore := excC_ok x30,
    xf_InvalidStore := xfB_ok x31,
    xn_InvalidStore_value := eqO_ok x32,
    xk_InvalidStore := of_decide_eq_true x33,
    em_InvalidStore_InvalidMixing := of_decide_eq_true x34,
    em_InvalidStore_InvalidRecords := of_decide_eq_true x35,
    em_InvalidStore_InvalidReceipts := of_decide_eq_true x36,
    em_InvalidStore_InvalidArc := of_decide_eq_true x37,
    em_InvalidStore_InvalidStore := of_decide_eq_true x38,
    r_InvalidRecords := excT_ok (glo_ok X G (c.fact 33 (f := .glo "InvalidRecords"))) x39,
    xc_InvalidRecords := excC_ok x40,
    xf_InvalidRecords := xfB_ok x41,
    xn_InvalidRecords_position := eqO_ok x42,
    xk_InvalidRecords := of_decide_eq_true x43,
    em_InvalidRecords_InvalidMixing := of_decide_eq_true x44,
    em_InvalidRecords_InvalidRecords := of_decide_eq_true x45,
    r_InvalidReceipts := excT_ok (glo_ok X G (c.fact 34 (f := .glo "InvalidReceipts"))) x46,
    xc_InvalidReceipts := excC_ok x47,
    xf_InvalidReceipts := xfB_ok x48,
    xn_InvalidReceipts_position := eqO_ok x49,
    xk_InvalidReceipts := of_decide_eq_true x50,
    em_InvalidReceipts_InvalidMixing := of_decide_eq_true x51,
    em_InvalidReceipts_InvalidRecords := of_decide_eq_true x52,
    em_InvalidReceipts_InvalidReceipts := of_decide_eq_true x53,
    o_Mixing := ownC_ok (cls_ok (c.fact 36 (f := .cls "Mixing"))) x54,
    q_Mixing := ownK_ok x55,
    o_Arc := ownC_ok (cls_ok (c.fact 41 (f := .cls "Arc"))) x56,
    q_Arc := ownK_ok x57,
    q_Store := ownK_ok x58,
    o_Records := ownC_ok (cls_ok (c.fact 47 (f := .cls "Records"))) x59,
    q_Records := ownK_ok x60,
    u_Store_in_order_Store_records := of_decide_eq_true x61,
    t_Store_in_order := t.code _ (List.mem_of_getElem? (i := 0) rfl),
    t_Store_records := t.code _ (List.mem_of_getElem? (i := 1) rfl) }
set_option maxHeartbeats 4000000
end k56
/-! d.update(e), list(range(n)), two readings of one operator, tuples of the very same things -/
namespace Ah
open PySem PySem.Spec PyProof.Rows L2 He
section
variable {X : Cx}
def rUpdD : V → List V → Hp → VK → Prop := fun x ys H Q => ∃ (d o : Addr) (kvs more : List (Key × V)), x = .ref d ∧ ys = [.ref o] ∧ d ≠ o ∧ H d = some (.dK kvs) ∧ H o = some (.dK more) ∧ kvs.length + more.length ≤ sizeLine ∧ Q .non (upd H d (.dK (mergeK kvs more)))
theorem mt_updD : MtM X "dict.update" rUpdD := by
  intro pins s σ H x vs v us Q I rx rv h
  obtain ⟨d, o, kvs, more, rfl, rfl, ne, hd, ho, hz, q⟩ := h
  cases rx
  obtain ⟨u, rfl, ru⟩ := rv.one
  obtain rfl : u = Value.ref o := ru
  obtain ⟨z1, s1, ks, rel1, dd1⟩ := dk_of I.hok hd
  obtain ⟨z2, s2, ms, rel2, dd2⟩ := dk_of I.hok ho
  refine call_meetsIn PySem.F.slot_dict_update dd1.typeIs PySem.F.entry_dict_update (PySem.F.args_dict_update_2 _ _) (meets_dict_update (mixKind X.prog X.w) d o ne s2) ⟨ks, ms, dd1, dd2, by rw [← rel1.length, ← rel2.length]; exact hz, fun h' hd' ho' hs => ?_⟩
  have he : ∃ q, h'.get? d = some q := let ⟨q, _, _, hq, _⟩ := hd'; ⟨q, hq⟩
  have J := d_write (t' := s.toks) I (by rw [hd]; exact True.intro) hs he (dk_new (Nat.le_trans (length_mergeK more kvs) hz) s1 (KV.merge rel2 rel1) hd')
  exact ⟨.non, _, J, rfl, q⟩
theorem cr_range1 : CallR X (.type "range") (fun vs H Q => ∃ j, vs = [V.int j] ∧ ∀ p, H p = none → Q (.ref p) (upd H p (.rng 0 j))) := by
  intro pins s σ H vs us Q I r h
  obtain ⟨j, rfl, q⟩ := h
  obtain ⟨u1, rfl, rj⟩ := r.one
  obtain ⟨u, rfl⟩ := rj
  refine call_range_1 ⟨.ref s.heap.objs.size, upd H s.heap.objs.size (.rng 0 j), I.laid (t' := s.toks + 2) (fun b o e => Heap.get?_push_of_some _ e) (Nat.le_refl _) ?_, rfl, q _ (I.hok.fresh (Nat.le_refl _))⟩
  exact ⟨_, u, _, Heap.get?_push_size _ rfl⟩
theorem pairedOf {α β : Type} {R : α → β → Prop} : ∀ {xs : List α} {us : List β}, xs.length = us.length → (∀ (i : Nat) x u, xs[i]? = some x → us[i]? = some u → R x u) → Paired R xs us
  | [], [], _, _ => .nil
  | x :: xs, u :: us, hl, h => .cons (h 0 x u rfl rfl) (pairedOf (by simpa using hl) fun i y w hy hw => h (i + 1) y w (by simpa using hy) (by simpa using hw))
  | [], _ :: _, hl, _ => by simp at hl
  | _ :: _, [], hl, _ => by simp at hl
/-- 0, 1, .. -/
def countV (n : Nat) : List V := (List.range n).map fun (i : Nat) => V.int (i : Int)
theorem countV_len (n : Nat) : (countV n).length = n := by simp [countV]
theorem call_listRng (hc : X.calm = true) : CallR X (.type "list") (fun xs H Q => ∃ (a : Addr) (n : Nat), xs = [.ref a] ∧ H a = some (.rng 0 (n : Int)) ∧ n ≤ 1000000 ∧ ∀ p, H p = none → Q (.ref p) (upd H p (.lst (countV n)))) := by
  intro pins s σ H xs us Q I r h
  obtain ⟨a, n, rfl, ha, hn, q⟩ := h
  obtain ⟨u, rfl, rx⟩ := vals1 r
  cases rx
  obtain ⟨t, u, v, e⟩ := I.hok a _ ha
  refine call_list_range (n := n) (I.ok.hd hc) e ?_ ?_ (by omega) fun h' tk acc' c' hk hS hacc => ?_
  · unfold Builtin.Range.small Builtin.Range.rangeSize Builtin.Range.rangeFitsLong
    simp only [Bool.and_eq_true, Bool.or_eq_true, decide_eq_true_eq, beq_iff_eq]
    by_cases h0 : (0 : Int) < (n : Int)
    · simp [h0]
      omega
    · simp [h0]
      omega
  · unfold Builtin.Range.rangeSize
    rw [if_pos (by decide)]
    split <;> omega
  · have ev : Vals (countV n) acc'.toList := by
      refine pairedOf (by rw [countV_len]; exact hacc.1.symm) fun i x u hx hu => ?_
      obtain ⟨t, rfl⟩ := hacc.2 i u (by rw [← Array.getElem?_toList]; exact hu)
      unfold countV at hx
      rw [List.getElem?_map] at hx
      cases e2 : (List.range n)[i]? with
      | none =>
        rw [e2] at hx
        cases hx
      | some k =>
        rw [e2] at hx
        cases hx
        have hi := (List.getElem?_eq_some_iff.mp e2)
        obtain ⟨h1, h2⟩ := hi
        rw [List.getElem_range] at h2
        subst h2
        exact ⟨t, by simp⟩
    refine ⟨.ref s.heap.objs.size, _, I.laid (t' := tk) hk (Nat.le_refl _) (show ObjOk X.prog X.w _ h' _ (.lst (countV n)) from ⟨by rw [countV_len, sizeLine_eq]; omega, acc'.toList, c', ev, by simpa using hS⟩), rfl, q _ (I.hok.fresh (Nat.le_refl _))⟩
/-- one of two readings -/
theorem OpR.or {f : Value → Value → Sem Value} {r1 r2 : R2} (h1 : OpR X f r1) (h2 : OpR X f r2) : OpR X f (fun x y H Q => r1 x y H Q ∨ r2 x y H Q) := by
  intro pins s σ H x y v u Q I rx ry h
  rcases h with h | h
  · exact h1 pins s σ H x y v u Q I rx ry h
  · exact h2 pins s σ H x y v u Q I rx ry h
/-- a == b, tuples of the very same things -/
def rEqTS (K : Frag) : R2 := fun x y H Q => ∃ a b xs, x = .ref a ∧ y = .ref b ∧ SqT K H a xs ∧ SqT K H b xs ∧ (∀ v ∈ xs, flatB v = true ∨ ∃ c, v = .ref c) ∧ Q (.bl true) H
theorem op_eqTS (hu : X.A.units + 64 < cLine) : OpR X (compareOp .Eq) (rEqTS X.K) := by
  intro pins s σ H x y v u Q I rx ry h
  obtain ⟨a, b, xs, rfl, rfl, ha, hb, hx, q⟩ := h
  cases (show v = Value.ref a from rx)
  cases (show u = Value.ref b from ry)
  obtain ⟨us, r1, p1, _⟩ := I.tuple ha
  obtain ⟨ws, r2, p2, _⟩ := I.tuple hb
  have hsz : us.toArray.size = ws.toArray.size := by
    rw [List.size_toArray, List.size_toArray, ← r1.length, ← r2.length]
  refine SeqAt.RcAt.tuples (A := X.A) (e := fun _ => true) p1 p2 (by omega) (fun j h1 h2 => ?_) X.prog X.w _ _ ?_
  · have h1' : j < us.length := by simpa using h1
    have h2' : j < ws.length := by simpa using h2
    have h0 : j < xs.length := by rw [r1.length]; exact h1'
    obtain ⟨u1, e1, q1⟩ := r1.get (List.getElem?_eq_getElem h0)
    obtain ⟨u2, e2, q2⟩ := r2.get (List.getElem?_eq_getElem h0)
    rw [List.getElem?_eq_getElem h1'] at e1
    rw [List.getElem?_eq_getElem h2'] at e2
    cases e1
    cases e2
    rw [List.getElem_toArray, List.getElem_toArray]
    generalize us[j] = u1 at q1 ⊢
    generalize ws[j] = u2 at q2 ⊢
    rcases hx _ (List.getElem_mem h0) with f | ⟨c, e⟩
    · exact eqAt_same q1 q2 f
    · rw [e] at q1 q2
      cases (show u1 = Value.ref c from q1)
      cases (show u2 = Value.ref c from q2)
      exact SeqAt.EqAt.same _
  · have e : ((List.range (min us.toArray.size ws.toArray.size)).all (fun _ => true) && us.toArray.size == ws.toArray.size) = true := by
      rw [hsz]
      simp
    rw [e]
    exact ⟨.bl true, H, I, rfl, q⟩
/-- l != m, two lists of the very same things -/
def rNeSV (K : Frag) : R2 := fun x y H Q => ∃ a b xs, x = .ref a ∧ y = .ref b ∧ H a = some (.lst xs) ∧ H b = some (.lst xs) ∧ (∀ v ∈ xs, flatB v = true ∨ ∃ c, v = .ref c) ∧ Q (.bl false) H
theorem op_neSV (hu : X.A.units + 64 < cLine) : OpR X (compareOp .NotEq) (rNeSV X.K) := by
  intro pins s σ H x y v u Q I rx ry h
  obtain ⟨a, b, xs, rfl, rfl, ha, hb, hx, q⟩ := h
  cases (show v = Value.ref a from rx)
  cases (show u = Value.ref b from ry)
  obtain ⟨us, r1, p1, _⟩ := I.list (SqL.of (K := X.K) ha)
  obtain ⟨ws, r2, p2, _⟩ := I.list (SqL.of (K := X.K) hb)
  have hsz : us.toArray.size = ws.toArray.size := by
    rw [List.size_toArray, List.size_toArray, ← r1.length, ← r2.length]
  have z := SeqAt.RcNeAt.lists (A := X.A) (e := fun _ => true) p1.isList p2.isList hsz (by omega) fun j h1 h2 => ?_
  · refine z X.prog X.w _ _ ?_
    have e : (!(List.range us.toArray.size).all fun _ => true) = false := by simp
    rw [e]
    exact ⟨.bl false, H, I, rfl, q⟩
  · have h1' : j < us.length := by simpa using h1
    have h2' : j < ws.length := by simpa using h2
    have h0 : j < xs.length := by rw [r1.length]; exact h1'
    obtain ⟨u1, e1, q1⟩ := r1.get (List.getElem?_eq_getElem h0)
    obtain ⟨u2, e2, q2⟩ := r2.get (List.getElem?_eq_getElem h0)
    rw [List.getElem?_eq_getElem h1'] at e1
    rw [List.getElem?_eq_getElem h2'] at e2
    cases e1
    cases e2
    rw [List.getElem_toArray, List.getElem_toArray]
    generalize us[j] = u1 at q1 ⊢
    generalize ws[j] = u2 at q2 ⊢
    rcases hx _ (List.getElem_mem h0) with f | ⟨c, e⟩
    · exact eqAt_same q1 q2 f
    · rw [e] at q1 q2
      cases (show u1 = Value.ref c from q1)
      cases (show u2 = Value.ref c from q2)
      exact SeqAt.EqAt.same _
end
end Ah

/-! tuple(list), the object known; dict(tuple of pairs) -/
namespace Ah
open PySem PySem.Spec PyProof.Rows L2 He
/-- a tuple whose object has no dict -/
def FzT (H : Hp) (a : Addr) (xs : List V) : Prop := ∃ o : Obj, o.cls = .type "tuple" ∧ o.dict = none ∧ H a = some (.frz o (.tup xs))
theorem FzT.sq {K : Frag} {H : Hp} {a : Addr} {xs : List V} (h : FzT H a xs) : SqT K H a xs := by
  obtain ⟨o, _, _, e⟩ := h
  exact .inl (.inr ⟨o, e⟩)
theorem FzT.same {H H' : Hp} {a : Addr} {xs : List V} (h : FzT H a xs) (s : Same H H') : FzT H' a xs := by
  obtain ⟨o, c, d, e⟩ := h
  exact ⟨o, c, d, s _ _ e⟩
section
variable {X : Cx}
theorem call_tupleFz : CallR X (.type "tuple") (fun xs H Q => ∃ p ys, xs = [.ref p] ∧ SqL X.K H p ys ∧ ∀ G l, Same H G → H l = none → FzT G l ys → Q (.ref l) G) := by
  intro pins s σ H xs us Q I r h
  obtain ⟨p, ys, rfl, hq, q⟩ := h
  obtain ⟨u, rfl, rx⟩ := vals1 r
  cases rx
  obtain ⟨its, r', pl, hz⟩ := I.list hq
  have hlen := r'.length
  refine call_tuple_list pl.isList (fun h' kp => ?_) (by simp only [List.size_toArray] <;> omega)
  have I1 : Inv X pins σ H { s with heap := h' } := I.kept (t' := s.toks) kp
  have nf := I1.hok.fresh (Nat.le_refl _)
  have I2 : Inv X pins σ (upd H h'.objs.size (.frz { cls := .type "tuple", data := .seq its.toArray } (.tup ys))) { s with heap := h'.push { cls := .type "tuple", data := .seq its.toArray } } :=
    I1.laid (t' := s.toks) (fun b o e => Heap.get?_push_of_some _ e) (Nat.le_refl _) (show ObjOk X.prog X.w _ _ _ (.frz _ (.tup ys)) from ⟨Heap.get?_push_size _ rfl, hz, its, r', IsTup.new _ _⟩)
  exact ⟨.ref h'.objs.size, _, I2, rfl, q _ _ (Same.upd (Same.refl _) nf) nf ⟨_, rfl, rfl, upd_same⟩⟩
theorem pairs_of2 {pins : List (Addr × Obj)} {σ : L2.St} {H : Hp} {s : Shared} (I : Inv X pins σ H s) : ∀ {ps : List Addr} {kvs : List (Key × V)}, Paired (fun p kv => SqT X.K H p [kV kv.1, kv.2]) ps kvs →
    ∃ (us : List (Value × Value)) (prs : List (Key × Value)), KV kvs prs ∧ us.length = ps.length ∧ prs.length = ps.length ∧ ∀ (j : Nat) k v, us[j]? = some (k, v) → ∃ b : Addr, ps[j]? = some b ∧ IsTup s.heap b #[k, v] ∧ ∃ key : Key, prs[j]? = some (key, v) ∧ keyIs key k = true
  | _, _, .nil => ⟨[], [], .nil, rfl, rfl, fun j k v e => by simp at e⟩
  | _, _, .cons (a := p) (b := kv) h t => by
    obtain ⟨us, prs, r, hu, hl, hp⟩ := pairs_of2 I t
    obtain ⟨its, rv, ht, _⟩ := I.tuple h
    obtain ⟨u, y, ei, ru, ry⟩ := vals2 rv
    subst ei
    refine ⟨(u, y) :: us, (kv.1, y) :: prs, .cons ⟨rfl, ry⟩ r, by rw [List.length_cons, List.length_cons, hu], by rw [List.length_cons, List.length_cons, hl], fun j k v e => ?_⟩
    cases j with
    | zero =>
      have e' : (u, y) = (k, v) := Option.some.inj e
      cases e'
      exact ⟨p, rfl, ht, kv.1, rfl, kV_is (P := X.prog) (w := X.w) ru⟩
    | succ j =>
      obtain ⟨b, e1, e2, key, e3, e4⟩ := hp j k v (by simpa using e)
      exact ⟨b, by simpa using e1, e2, key, by simpa using e3, e4⟩
theorem call_dictFz (hcalm : X.calm = true) : CallR X (.type "dict") (fun xs H Q => ∃ (a : Addr) (ps : List Addr) (kvs : List (Key × V)), xs = [.ref a] ∧ FzT H a (ps.map V.ref) ∧ Paired (fun p kv => SqT X.K H p [kV kv.1, kv.2]) ps kvs ∧
    ∀ p, H p = none → Q (.ref p) (upd H p (.dK (mergeK [] kvs)))) := by
  intro pins s σ H xs us Q I r q
  obtain ⟨a, ps, kvs, ex, hq, hp, q⟩ := q
  subst ex
  obtain ⟨u, eu, rx⟩ := vals1 r
  subst eu
  cases rx
  obtain ⟨o, oc, od, ho⟩ := hq
  obtain ⟨hg, hz, its, rv, o', ho', hc', n, hdat⟩ := I.hok a _ ho
  rw [hg] at ho'
  cases ho'
  have ei := refs_at rv
  subst ei
  rw [List.length_map] at hz
  obtain ⟨us, prs, rel, hu, hl, hpr⟩ := pairs_of2 I hp
  refine PySem.call_dict_pairs (knd := mixKind X.prog X.w) (kvs := prs) (PairArg.tuple a (ps.map Value.ref).toArray (fun j => ps.getD j 0) us) (I.ok.hd hcalm) ⟨⟨o, n, hg, oc, od, hdat⟩, by simp [hu], fun j k v e => ?_⟩ ⟨by rw [hl, hu], fun j key v e => ?_⟩ (by rw [hu]; exact hz) fun h' tk hd' k => ?_
  · obtain ⟨b, e1, e2, _⟩ := hpr j k v e
    refine ⟨by simp [e1], .inl ?_⟩
    show s.heap.IsTuple (ps.getD j 0) _
    rw [show ps.getD j 0 = b by simp [List.getD_eq_getElem?_getD, e1]]
    exact e2
  · obtain ⟨b, _, _, k, e3, e4⟩ := hpr j key v e
    exact ⟨k, e3, e4⟩
  · have hm : (s.heap.objs.size == sysModules) = false := beq_eq_false_iff_ne.mpr (Nat.ne_of_gt I.big)
    have hlen : (mergeK [] kvs).length ≤ sizeLine := by
      refine Nat.le_trans (length_mergeK kvs []) ?_
      rw [List.length_nil, Nat.zero_add, rel.length, hl]
      exact hz
    exact ⟨.ref s.heap.objs.size, upd H s.heap.objs.size (.dK (mergeK [] kvs)), I.laid (t' := tk) (fun b o e => k b o (by simp) e) (Nat.le_refl _) (show ObjOk X.prog X.w _ _ _ (.dK (mergeK [] kvs)) from ⟨hlen, hm, merged [] prs, KV.merge rel .nil, hd'⟩), rfl, q _ (I.hok.fresh (Nat.le_refl _))⟩
/-- f(e, ..), what leaves it is told together with the slots -/
def tCallW (sp : Sp) (W : WX) (t : TA) : TE := fun σ H Q => t σ H fun vs H1 => sp vs H1 Q (fun cls d H' => W cls d σ H')
theorem pe_cFW {k j : Nat} {f : Addr} {sp : Sp} {W : WX} {x : Str} {e : Expr} {es : List Expr} {t : TA} {p pos : Pos} (F : FnB X.prog X.w X.K X.mg X.base k f sp) (hr : Rm j X.A) (hm : X.mg x = some (.ref f)) (tk : Takes X W) (ha : PA X (e :: es) t) (hk : k ≤ j := by decide) (hg : Gl X x := by rfl)
    (hdb : (x == ("__debug__" : Str)) = false := by decide) (he : starEach (e :: es) X.env = (false, eval e X.env) :: starEach es X.env := by rfl) (hpl : (backTo pos (starEach es X.env)).any (·.1) = false := by rfl) :
    PE X (.Call (.Name x p) (e :: es) [] pos) (tCallW sp W t) := by
  refine ⟨fun pins s σ H Q I h => wpAny_Call_Name_kw (ld_glob I hg hm ?_ hdb)⟩
  refine PySem.W.callWith_K (h₀ := X.base) I.ok.mod.kin F.kp (thn (ha.run pos pins s σ H _ I h) fun us s1 ⟨vs, H1, I1, r, q⟩ => ⟨I1.kIn, ?_⟩) he hpl
  refine wpAny_call (codeAny_mono (F.run _ X.stack s1 H1 us vs Q _ (hr.mono hk) I1.env0 r q) fun res s' hq => ?_)
  match res, hq with
  | .error e, hq => exact tk e s' (XE.of_call I1 (fun cls d H' h => h) hq)
  | .ok (.ret u), hq => exact I1.after hq
theorem maxL1_num {prog : Program} {w : World} {A : Around} {E : Value → Shared → Prop} {s : Shared} {l : Addr} {Q : Value → Shared → Prop} {a : Value} (hh : A.handled = none) (hl : s.heap.IsList l #[a]) (ha : Flt.NumV a)
    (h : ∀ h' tk, (∀ d o, s.heap.get? d = some o → h'.get? d = some o) → Q a { s with heap := h', toks := tk }) : wpAny (model prog w) A (call (.builtin "max") [.ref l]) Q E s := by
  refine call_max_walk (iter_anyList hl fun s₂ e st hfp hlI => ?_)
  subst e
  refine ⟨_, _, _, _, _, _, _, rfl, Walks.list (A := A.in1) hh _ l hlI #[a], st, hfp, by simp, Flt.cmpOf_gt #[a] (by simp [ha]), fun v h' tk hP hk => ?_⟩
  have := h h' tk (PySem.old_kept hk)
  have hv : a = v := by simpa [argBest] using hP
  rw [hv] at this
  exact this
theorem maxL2_num {prog : Program} {w : World} {A : Around} {E : Value → Shared → Prop} {s : Shared} {l : Addr} {Q : Value → Shared → Prop} {a b : Value} (hh : A.handled = none) (hl : s.heap.IsList l #[a, b]) (ha : Flt.NumV a) (hb : Flt.NumV b)
    (h : ∀ h' tk, (∀ d o, s.heap.get? d = some o → h'.get? d = some o) → Q (if Flt.ltV a b = true then b else a) { s with heap := h', toks := tk }) : wpAny (model prog w) A (call (.builtin "max") [.ref l]) Q E s := by
  refine call_max_walk (iter_anyList hl fun s₂ e st hfp hlI => ?_)
  subst e
  refine ⟨_, _, _, _, _, _, _, rfl, Walks.list (A := A.in1) hh _ l hlI #[a, b], st, hfp, by simp, Flt.cmpOf_gt #[a, b] (by simp [ha, hb]), fun v h' tk hP hk => ?_⟩
  have := h h' tk (PySem.old_kept hk)
  have hv : (if Flt.ltV a b = true then b else a) = v := by
    cases h1 : Flt.ltV a b <;> simp [argBest, h1] at hP <;> simp <;> exact hP
  rw [hv] at this
  exact this
/-- max of a list of one or two ints -/
theorem call_maxI (hc : X.calm = true) : CallR X (.builtin "max") (fun xs H Q => ∃ p, xs = [V.ref p] ∧ ((∃ i, SqL X.K H p [.int i] ∧ Q (.int i) H) ∨ ∃ i j, SqL X.K H p [.int i, .int j] ∧ Q (.int (if i < j then j else i)) H)) := by
  intro pins s σ H vs us Q I r h
  obtain ⟨p, rfl, h⟩ := h
  rw [Vals.ref1 r]
  rcases h with ⟨i, hs, q⟩ | ⟨i, j, hs, q⟩
  · obtain ⟨its, rv, hl, _⟩ := I.list hs
    obtain ⟨u, rfl, ru⟩ := rv.one
    obtain ⟨t, rfl⟩ := ru
    exact maxL1_num (I.ok.hd hc) hl.isList (.int _ _) fun h' tk k => ⟨.int i, H, I.kept k, ⟨t, rfl⟩, q⟩
  · obtain ⟨its, rv, hl, _⟩ := I.list hs
    obtain ⟨u1, u2, rfl, r1, r2⟩ := vals2 rv
    obtain ⟨t1, rfl⟩ := r1
    obtain ⟨t2, rfl⟩ := r2
    refine maxL2_num (I.ok.hd hc) hl.isList (.int _ _) (.int _ _) fun h' tk k => ⟨_, H, I.kept k, ?_, q⟩
    show L2.RelV (V.int (if i < j then j else i)) (if decide (i < j) = true then Value.int j t2 else Value.int i t1)
    by_cases e : i < j
    · rw [if_pos e, if_pos (decide_eq_true e)]
      exact ⟨t2, rfl⟩
    · rw [if_neg e, if_neg (by simpa using e)]
      exact ⟨t1, rfl⟩
end
end Ah

/-! the items of a dict, a name as the target: the tuple that went out before may still be there -/
namespace Ah
open PySem PySem.Spec PySem.W PyProof.Rows L2 He
section
variable {prog : Program} {w : World} {KT : Type} [DecidableEq KT] {knd : KeyKind prog w KT} {A : Around} {E : Value → Shared → Prop} {s : Shared}
theorem alive_any {a : Addr} {Q : Option Obj → Shared → Prop} (h : Q (s.heap.get? a) s) : wpAny (model prog w) A (loadIfAlive a) Q E s := fun _ _ _ => h
/-- one more item; whether the tuple of the turn before is still there is open -/
theorem next_items {it d a : Addr} {f : Bool} {i ep : Nat} {kvs : List (KT × Value)} {k : KT} {v ok ov : Value} {Q : Option Value → Shared → Prop} (hit : KdxIt s.heap it d i kvs.length ep ok ov a f) (hai : a ≠ it)
    (hm : s.heap.DictAt knd d kvs ep) (hx : kvs[i]? = some (k, v))
    (hQ : ∀ key h', knd.is k key = true → (∃ ok' ov' a' f', KdxIt h' it d (i + 1) kvs.length ep ok' ov' a' f' ∧ a' ≠ it) →
      h'.get? s.heap.objs.size = some { cls := .type "tuple", data := .seq #[key, v] } → h'.objs.size = s.heap.objs.size + 1 →
      (∀ b o, b ≠ it → s.heap.get? b = some o → h'.get? b = some o) → Q (some (.ref s.heap.objs.size)) { s with heap := h' }) :
    wpAny (model prog w) A (pyNext (.ref it)) Q E s := by
  cases ha : s.heap.get? a with
  | some oa => exact kdx_next_out hit ha hai hm hx fun key h' k1 k2 => hQ key h' k1 ⟨_, _, _, _, k2, hai⟩
  | none =>
    obtain ⟨hp, g, dr, tk, os⟩ := s
    obtain ⟨od, es, hod, hcd, hdd, hk, hpr, hn⟩ := id hm
    have hT : Shared.TypeIs ⟨hp, g, dr, tk, os⟩ (.ref it) "dict_itemiterator" := ⟨_, hit, rfl⟩
    have own1 : Builtin.Dict_items.ownsTuple "dict_itemiterator" = true := by decide
    have nilD : ¬ ((Value.ref d == Value.none) = true) := Bool.false_ne_true
    have hsz : es.size = kvs.length := by
      have := hpr.length
      simpa using this
    obtain ⟨hlt, _⟩ := List.getElem?_eq_some_iff.mp hx
    have hi : i < es.size := by omega
    obtain ⟨hkey, hval⟩ := hpr.get? (e := es[i]) (by simp [hi]) hx
    unfold pyNext
    refine wpAny_bind (wpAny_attempt (wpAny_callSpecial?_slot (name := Str.ofString "__next__") hT F.slot_dict_itemiterator_next (wpAny_call_entry F.slot_dict_itemiterator_next hT F.entry_dict_itemiterator_next ?_ (F.args_dict_itemiterator_next_1 _))))
    refine wpAny_bind (wpAny_pure (wpAny_bind (wpAny_bind ?_)))
    first | refine wpAny_bind (wpAny_typeNameOfWhole_itemiter hT (wpAny_pure ?_)) | refine wpAny_bind (wpAny_typeNameOf_itemiter hT (wpAny_pure ?_))
    refine wpAny_bind (wpAny_fieldsOf hit rfl ?_)
    simp only [own1, if_true]
    show wpAny _ _ (if (Value.ref d == Value.none) = true then _ else _) _ _ _
    rw [if_neg nilD]
    refine wpAny_bind (wpAny_pure (wpAny_bind (wpAny_dictEntries hod hdd ?_)))
    rw [if_neg (by rw [hsz]; simp)]
    refine wpAny_bind (wpAny_pure (wpAny_bind (wpAny_dictEpoch hod hdd ?_)))
    rw [if_neg (by simp)]
    refine wpAny_pure ?_
    simp only [show ¬ ((i : Int) < 0) by omega, if_false, Int.toNat_natCast, Array.getElem?_eq_getElem hi]
    refine wpAny_bind ?_
    first | refine wpAny_bind (wpAny_typeNameOfWhole_itemiter hT (wpAny_pure ?_)) | refine wpAny_bind (wpAny_typeNameOf_itemiter hT (wpAny_pure ?_))
    refine wpAny_bind (wpAny_isOneOf_itemiter hT ?_)
    show wpAny _ _ (setField (.ref it) 3 (rawInt ((i : Int) + 1)) >>= _) _ _ ⟨hp, g, dr, tk, os⟩
    refine wpAny_bind (wpAny_setField_rec hit (by simp) fun h1 e1 s1 => ?_)
    replace s1 : Heap.SameBut it hp h1 := s1
    replace e1 : KdxIt h1 it d (i + 1) kvs.length ep ok ov a f := by
      have e : ((i + 1 : Nat) : Int) = (i : Int) + 1 := by omega
      unfold KdxIt
      rw [e]
      simpa [rawInt] using e1
    have hT1 : Shared.TypeIs ⟨h1, g, dr, tk, os⟩ (.ref it) "dict_itemiterator" := ⟨_, e1, rfl⟩
    refine wpAny_bind (wpAny_holding (wpAny_bind (wpAny_isOneOf_itemiter hT1 ?_)))
    refine wpAny_bind (wpAny_isOneOf_itemiter hT1 ?_)
    show wpAny _ _ (Builtin.Dict_items.pairFromOwner (.ref it) 6 es[i].key es[i].val) _ _ ⟨h1, g, dr, tk, os⟩
    unfold Builtin.Dict_items.pairFromOwner
    refine wpAny_bind (wpAny_newTuple ?_)
    have e2 : KdxIt (h1.push { cls := .type "tuple", data := .seq #[es[i].key, es[i].val] }) it d (i + 1) kvs.length ep ok ov a f := Heap.get?_push_of_some _ e1
    generalize hh : h1.push { cls := .type "tuple", data := .seq #[es[i].key, es[i].val] } = h2 at e2
    have z1 : h1.objs.size = hp.objs.size := s1.1
    have il : it < hp.objs.size := Heap.lt_size hit
    have t2 : h2.get? hp.objs.size = some { cls := .type "tuple", data := .seq #[es[i].key, es[i].val] } := by
      rw [← hh, ← z1]
      exact Heap.get?_push_size _ rfl
    have z2 : h2.objs.size = hp.objs.size + 1 := by rw [← hh, Heap.size_push, z1]
    have k2 : ∀ b o, b ≠ it → hp.get? b = some o → h2.get? b = some o := fun b o hb e => by
      rw [← hh]
      exact Heap.get?_push_of_some _ (s1.extBut b o hb e)
    show wpAny _ _ (Builtin.Dict_items.ownedTupleIsFree (.ref it) >>= _) _ _ ⟨h2, g, dr, tk, os⟩
    rw [z1]
    clear hh e1 s1 hT1 z1 h1
    refine wpAny_bind ?_
    unfold Builtin.Dict_items.ownedTupleIsFree
    refine wpAny_bind (wpAny_field e2 rfl (x := rawInt a) rfl ?_)
    show wpAny _ _ (loadIfAlive ((a : Int).toNat) >>= _) _ _ _
    rw [Int.toNat_natCast]
    refine wpAny_bind (alive_any ?_)
    have fin : ∀ h3 : Heap, (∃ ok' ov' a' f', KdxIt h3 it d (i + 1) kvs.length ep ok' ov' a' f' ∧ a' ≠ it) → Heap.SameBut it h2 h3 → Q (some (.ref hp.objs.size)) ⟨h3, g, dr, tk, os⟩ := fun h3 x s3 =>
      hQ es[i].key h3 hkey x (by rw [← hval]; exact s3.extBut _ _ (Nat.ne_of_gt il) t2) (by show h3.objs.size = hp.objs.size + 1; rw [s3.1, z2]) fun b o hb e => s3.extBut b o hb (k2 b o hb e)
    have nsz : hp.objs.size ≠ it := Nat.ne_of_gt il
    cases ha2 : (⟨h2, g, dr, tk, os⟩ : Shared).heap.get? a with
    | some oa =>
      simp only [Option.isNone_some, Bool.false_eq_true, if_false]
      refine wpAny_bind (wpAny_field e2 rfl (x := .bool f) rfl ?_)
      cases f with
      | true =>
        rw [if_neg (show ¬ ((Value.bool true != Value.bool true) = true) from Bool.false_ne_true)]
        refine wpAny_pure ?_
        simp only [Bool.false_eq_true, if_false]
        exact wpAny_pure (wpAny_pure ⟨_, rfl, wpAny_pure (fin h2 ⟨_, _, _, _, e2, hai⟩ (Heap.SameBut.refl _ _))⟩)
      | false =>
        rw [if_pos (show (Value.bool false != Value.bool true) = true from rfl)]
        refine wpAny_bind (wpAny_setField_rec e2 (by simp) fun h3 e3 s3 => ?_)
        replace s3 : Heap.SameBut it h2 h3 := s3
        replace e3 : KdxIt h3 it d (i + 1) kvs.length ep ok ov a true := e3
        refine wpAny_pure ?_
        simp only [Bool.false_eq_true, if_false]
        exact wpAny_pure (wpAny_pure ⟨_, rfl, wpAny_pure (fin h3 ⟨_, _, _, _, e3, hai⟩ s3)⟩)
    | none =>
      simp only [Option.isNone_none, if_true]
      refine wpAny_pure ?_
      simp only [if_true]
      refine wpAny_bind (wpAny_field e2 rfl (x := ok) rfl (wpAny_bind (wpAny_field e2 rfl (x := ov) rfl ?_)))
      refine wpAny_bind (wpAny_setField_rec e2 (by simp) fun h3 e3 s3 => ?_)
      replace s3 : Heap.SameBut it h2 h3 := s3
      replace e3 : KdxIt h3 it d (i + 1) kvs.length ep es[i].key ov a f := e3
      refine wpAny_bind (wpAny_setField_rec e3 (by simp) fun h4 e4 s4 => ?_)
      replace s4 : Heap.SameBut it h3 h4 := s4
      replace e4 : KdxIt h4 it d (i + 1) kvs.length ep es[i].key es[i].val a f := e4
      refine wpAny_bind (wpAny_setField_rec e4 (by simp) fun h5 e5 s5 => ?_)
      replace s5 : Heap.SameBut it h4 h5 := s5
      replace e5 : KdxIt h5 it d (i + 1) kvs.length ep es[i].key es[i].val hp.objs.size f := e5
      refine wpAny_bind (wpAny_setField_rec e5 (by simp) fun h6 e6 s6 => ?_)
      replace s6 : Heap.SameBut it h5 h6 := s6
      replace e6 : KdxIt h6 it d (i + 1) kvs.length ep es[i].key es[i].val hp.objs.size false := e6
      refine wpAny_bind (wpAny_letGo (wpAny_pure (wpAny_pure ⟨_, rfl, wpAny_pure (fin h6 ⟨_, _, _, _, e6, nsz⟩ ?_)⟩)))
      exact ((s3.trans s4).trans s5).trans s6
end
section
variable {P : Program} {w : World} {K : Frag} {d : Addr} {o : Obj} {es : Array DictEntry} {ep : Nat} {x : Str} {p : Pos}
theorem turn_itemsN {kvs : List (Key × V)} (it : Addr) (hod : o.data = .dict es ep) :
    Turn P w K (.Name x p) (Iti d o kvs) [it] it (fun i h => (∃ ok ov, IsItemIter h it d i kvs.length ep ok ov) ∨ ∃ ok ov a f, KdxIt h it d i kvs.length ep ok ov a f ∧ a ≠ it) where
  mem := by simp
  obj := fun i h st b hb => by
    have e : b = it := by simpa using hb
    subst e
    rcases st with ⟨ok, ov, e⟩ | ⟨ok, ov, a, f, e, _⟩
    · exact ⟨_, e, fun v z => nomatch z⟩
    · exact ⟨_, e, fun v z => nomatch z⟩
  keep := fun i h h' st k => by
    rcases st with ⟨ok, ov, e⟩ | ⟨ok, ov, a, f, e, n⟩
    · exact .inl ⟨ok, ov, k it (by simp) _ e⟩
    · exact .inr ⟨ok, ov, a, f, k it (by simp) _ e, n⟩
  item := by
    intro X hP hw hK hc i pins s σ H E I hf st hg
    subst hP hw hK
    obtain ⟨hd, hi⟩ := hg
    obtain ⟨hs, hgd, hx, es', ep', vs, hdt, hsz, kv, hm⟩ := I.frzK hd
    obtain ⟨rfl, rfl⟩ := dict_ep hod hdt
    obtain ⟨⟨k, v⟩, hkv⟩ : ∃ p, kvs[i]? = some p := ⟨kvs[i], List.getElem?_eq_getElem hi⟩
    obtain ⟨u, hu, ru⟩ := kv_get kv hkv
    have hl : kvs.length = vs.length := Paired.length kv
    have hlt : it < s.heap.objs.size := by
      rcases st with ⟨_, _, e⟩ | ⟨_, _, _, _, e, _⟩
      · exact Heap.lt_size e
      · exact Heap.lt_size e
    have fin : ∀ (key : Value) (h' : Heap), (mixKind X.prog X.w).is k key = true → (∃ ok' ov' a' f', KdxIt h' it d (i + 1) kvs.length ep' ok' ov' a' f' ∧ a' ≠ it) → h'.get? s.heap.objs.size = some { cls := .type "tuple", data := .seq #[key, u] } → (∀ b o, b ≠ it → s.heap.get? b = some o → h'.get? b = some o) →
        ∃ u', some (Value.ref s.heap.objs.size) = some u' ∧ wpAny (model X.prog X.w) X.A (letOwnedTupleGo (.Name x p) (.ref it) u') (fun _ s2 => ∃ y H', Inv X pins σ H' s2 ∧ L2.RelV y u' ∧ (Iti d o kvs).yld i H y H' ∧ ((∃ ok ov, IsItemIter s2.heap it d (i + 1) kvs.length ep' ok ov) ∨ ∃ ok ov a f, KdxIt s2.heap it d (i + 1) kvs.length ep' ok ov a f ∧ a ≠ it) ∧ ∀ b ∈ [it], H' b = none) E { s with heap := h' } := fun key h' hkey st' hT hk => by
      refine ⟨_, rfl, wpAny_pure ?_⟩
      have new : ObjOk X.prog X.w (upd H s.heap.objs.size (.tup [kV k, v])) h' s.heap.objs.size (.tup [kV k, v]) :=
        ⟨by show 2 ≤ sizeLine; decide, [key, u], .cons (relV_key (show keyIs k key = true from hkey)) (.cons ru .nil), ⟨_, hT, rfl, _, rfl⟩⟩
      have I1 : Inv X pins σ (upd H s.heap.objs.size (.tup [kV k, v])) { s with heap := h' } :=
        I.turnedNew (t' := s.toks) (ch := [it]) (fun b ob hb e => hk b ob (by simpa using hb) e) hf (Nat.le_refl _) new
      refine ⟨.ref s.heap.objs.size, _, I1, rfl, ⟨_, k, v, hkv, rfl, I.hok.fresh (Nat.le_refl _), rfl⟩, .inr st', fun b hb => ?_⟩
      have e : b = it := by simpa using hb
      rw [e, upd_ne (Nat.ne_of_lt hlt)]
      exact (hf it (by simp)).1
    rcases st with ⟨ok, ov, he⟩ | ⟨ok, ov, a, f, he, hai⟩
    · rw [hl] at he
      refine wpAny_pyNext_items_item he hm hu fun key h' hkey ho hT hz hk => ?_
      have ho' : KdxIt h' it d (i + 1) kvs.length ep' key u s.heap.objs.size false := by
        rw [hl]
        exact ho
      exact fin key h' hkey ⟨key, u, _, false, ho', Nat.ne_of_gt hlt⟩ hT hk
    · rw [hl] at he
      refine next_items he hai hm hu fun key h' hkey st' hT hz hk => ?_
      rw [← hl] at st'
      exact fin key h' hkey st' hT hk
  done := by
    intro X hP hw hK hc i pins s σ H E I hf st hg
    subst hP hw hK
    obtain ⟨hd, hi⟩ := hg
    obtain ⟨f0, f1, f2, f3, f4, f5⟩ := hf it (by simp)
    obtain ⟨hs, hgd, hx, es', ep', vs, hdt, hsz, kv, hm⟩ := I.frzK hd
    obtain ⟨rfl, rfl⟩ := dict_ep hod hdt
    have hl : kvs.length = vs.length := Paired.length kv
    have fin : ∀ h', Heap.ExtBut it s.heap h' → (none : Option Value) = none ∧ Inv X pins σ H { s with heap := h' } := fun h' eb => ⟨rfl, I.turned (t' := s.toks) (fun b ob hb e => eb b ob hb e) f0 f1 f3 f4 f5⟩
    rcases st with ⟨ok, ov, he⟩ | ⟨ok, ov, a, f, he, hai⟩
    · rw [hl] at he
      exact wpAny_pyNext_items_end (I.ok.hd hc) he hm (List.getElem?_eq_none (by omega)) fin
    · rw [hl] at he
      exact kdx_end_out (I.ok.hd hc) he hm (List.getElem?_eq_none (by omega)) fin
  self := fun A i s Q E st h => by
    rcases st with ⟨_, _, e⟩ | ⟨_, _, _, _, e, _⟩
    · exact PySem.W.kcp_self e h
    · have hT : s.TypeIs (.ref it) "dict_itemiterator" := ⟨_, e, rfl⟩
      exact wpAny_pyIter_slot hT F.slot_dict_itemiterator_iter (wpAny_call_entry F.slot_dict_itemiterator_iter hT kcp_entry (wpAny_pure ⟨_, rfl, "dict_itemiterator", _, hT, F.slot_dict_itemiterator_next.lookup, h⟩) (F.args_dict_itemiterator_iter_1 _))
end
section
variable {X : Cx} {e : Expr} {td : TE} {apos cpos p : Pos} {x : Str}
/-- for x in d.items() -/
theorem pi_itemsN (he : PE X e td) (hbase : attributeBase e "items" X.env (eval e X.env) = eval e X.env := by rfl) (hline : (apos.endLine == cpos.line) = true := by rfl) :
    PI X (.Name x p) (.Call (.Attribute e "items" apos) [] [] cpos) (iItems td) := by
  refine ⟨fun pins s σ H R I h => ?_⟩
  refine wpAny_Call_method (T := "dict") (id := "dict.items") hbase rfl hline F.plainAttrs_dict F.slot_dict_items F.type_dict_items (thn (he.run pins s σ H _ I h) fun u s1 ⟨y, H1, I1, rx, d, o, kvs, ex, hd, q⟩ => ?_)
  subst ex
  obtain rfl : u = Value.ref d := rx
  obtain ⟨hs, hgd, hx, es, ep, vs, hdt, hsz, kv, hm⟩ := I1.frzK hd
  have hl : kvs.length = vs.length := Paired.length kv
  refine ⟨hm.dictOf.typeIs, hm.dictOf.mapOf.noDict, ?_⟩
  have I2 : Inv X pins σ H1 { s1 with heap := s1.heap.push { cls := .type "dict_items", data := .fields #[.ref d] } } := I1.kept (t' := s1.toks) fun b ob q => Heap.get?_push_of_some _ q
  have fin : wpAny (model X.prog X.w) X.A (pyIter (.ref s1.heap.objs.size)) (PIE X pins σ (.Name x p) R) X.xe { s1 with heap := s1.heap.push { cls := .type "dict_items", data := .fields #[.ref d] } } := by
    refine wpAny_pyIter_items (d := d) (knd := mixKind X.prog X.w) ⟨_, Heap.get?_push_size _ rfl, rfl, rfl⟩ (hm.push _) (pi_one (tk := s1.toks) I2 _ (turn_itemsN _ hdt) (.inl ⟨.none, .none, ?_⟩) q)
    rw [hl]
    exact Heap.get?_push_size _ rfl
  show wpAny _ _ (callWith cpos (.builtin "dict.items") [.ref d] [] []) _ X.xe s1
  exact method_meetsIn F.slot_dict_items F.entry_dict_items rfl (PySem.evalArgs_none ⟨rfl, hm.dictOf.typeIs, F.args_dict_items_1 _, _, meets_dict_items (mixKind X.prog X.w) d hs, ⟨vs, hm.dictOf⟩, fin⟩)
end
/-- != of two dicts: equal ones, or of other lengths -/
def rNeD2 : R2 := fun x y H Q => rNeDA x y H Q ∨ ∃ a b ks ls, x = .ref a ∧ y = .ref b ∧ H a = some (.dK ks) ∧ H b = some (.dK ls) ∧ ks.length ≠ ls.length ∧ Q (.bl true) H
theorem op_neD2 {X : Cx} (hu : X.A.units < cLine) : OpR X (compareOp .NotEq) rNeD2 := by
  intro pins s σ H x y v u Q I rx ry h
  rcases h with h | ⟨a, b, ks, ls, rfl, rfl, ea, eb, hlen, q⟩
  · exact op_ne_dictA hu pins s σ H x y v u Q I rx ry h
  · obtain rfl : v = Value.ref a := rx
    obtain rfl : u = Value.ref b := ry
    obtain ⟨_, ya, va, ra, da⟩ := (show ObjOk X.prog X.w H s.heap a (.dK ks) from I.hok a _ ea)
    obtain ⟨_, yb, vb, rb, db⟩ := (show ObjOk X.prog X.w H s.heap b (.dK ls) from I.hok b _ eb)
    have hl : ¬ va.length = vb.length := by rw [← ra.length, ← rb.length]; exact hlen
    exact PySem.W.keq_ne (knd := mixKind X.prog X.w) (r := true) ya yb da db hu (fun e => absurd e hl) (fin_bl I q (by simp [hl]))
/-- l != [] -/
def rNeNil : R2 := fun x y H Q => ∃ a b xs, x = .ref a ∧ y = .ref b ∧ H a = some (.lst xs) ∧ H b = some (.lst []) ∧ Q (.bl (!xs.isEmpty)) H
theorem op_neNil {X : Cx} (hu : X.A.units + 64 < cLine) : OpR X (compareOp .NotEq) rNeNil := by
  intro pins s σ H x y v u Q I rx ry h
  obtain ⟨a, b, xs, rfl, rfl, ha, hb, q⟩ := h
  cases (show v = Value.ref a from rx)
  cases (show u = Value.ref b from ry)
  obtain ⟨us, r1, p1, _⟩ := I.list (SqL.of (K := X.K) ha)
  obtain ⟨ws, r2, p2, _⟩ := I.list (SqL.of (K := X.K) hb)
  cases r2
  cases xs with
  | nil =>
    cases r1
    exact SeqAt.RcNeAt.lists (A := X.A) (e := fun _ => true) p1.isList p2.isList rfl (by omega) (fun j h1 _ => by simp at h1) X.prog X.w _ _ ⟨.bl false, H, I, rfl, q⟩
  | cons x xs =>
    cases r1 with
    | cons r rr => exact SeqAt.RcNeAt.lists_lengths (A := X.A) p1.isList p2.isList (by simp) (by omega) X.prog X.w _ _ ⟨.bl true, H, I, rfl, q⟩
/-- a comprehension over the items of a locked dict: the pairs that c takes -/
theorem lc_items {td : TE} {te : TE} {tt : TT} {σ : L2.St} {i : Nat} {H : Hp} {R : Addr} {kvs : List (Key × V)} {c : Key × V → Bool} {Q : VK} (hR : H R = some (.dK kvs)) (few : kvs.length ≤ 10000)
    (hd : ∀ G Q', Ex R H G → Q' (.ref R) G → td σ G Q')
    (ht : ∀ k v T G Q', (k, v) ∈ kvs → G T = some (.tup [kV k, v]) → (∀ G', Same G G' → Q' (c (k, v)) G') → tt ((wipe σ [i]).set i (some (.ref T))) G Q')
    (he : ∀ T G Q', Q' (.ref T) G → te ((wipe σ [i]).set i (some (.ref T))) G Q')
    (hw : ∀ x, wipe ((wipe σ [i]).set i (some x)) [i] = wipe σ [i])
    (q : ∀ H' D ts, Same H H' → H D = none → H' D = some (.lst (ts.map V.ref)) → Paired (fun (t : Addr) (kv : Key × V) => H' t = some (.tup [kV kv.1, kv.2])) ts (kvs.filter c) → Q (.ref D) H') : tLockE (tLc (iItems td) (gName i) tt te [i]) σ H Q := by
  refine ⟨R, .dK kvs, hR, trivial, fun od => ?_⟩
  have exL : Ex R H (upd H R (.frz od (.dK kvs))) := Ex.refl.upd
  refine hd _ _ exL ⟨R, od, kvs, rfl, upd_same, fun D hD => ?_⟩
  have hDR : D ≠ R := fun z => by
    rw [z, upd_same] at hD
    cases hD
  have hD0 : H D = none := by
    rw [upd_ne hDR] at hD
    exact hD
  refine lc_it walk_items (fun j H2 => ∃ ts : List Addr, H2 D = some (.lst (ts.map V.ref)) ∧ ts.length ≤ j ∧ Paired (fun (t : Addr) (kv : Key × V) => H2 t = some (.tup [kV kv.1, kv.2])) ts ((kvs.take j).filter c) ∧ H2 R = some (.frz od (.dK kvs)) ∧ Ex R H H2) ?_ (fun j H2 _ h => let ⟨_, _, _, _, h4, _⟩ := h; h4) ?_ ?_
  · refine ⟨[], upd_same, Nat.zero_le _, .nil, (by rw [upd_ne hDR.symm, upd_same]), fun b o hb h => ?_⟩
    rw [upd_ne (ne_of_none h hD0), upd_ne hb]
    exact h
  · rintro j x H2 H3 hj ⟨ts, hb, hlen, hp, hr, ex⟩ ⟨T, y1, y2, rfl, nT, rfl, e1, e2⟩
    obtain ⟨⟨k, v⟩, hkv⟩ : ∃ p, kvs[j]? = some p := ⟨kvs[j], List.getElem?_eq_getElem hj⟩
    dsimp only at e1 e2
    rw [hkv] at e1 e2
    cases e1
    cases e2
    generalize hg : upd H2 T (.tup [kV k, v]) = G
    have s2 := sameOf nT hg
    have eT := atOf hg
    clear hg
    have etk : (kvs.take (j + 1)).filter c = (kvs.take j).filter c ++ (if c (k, v) then [(k, v)] else []) := by
      rw [List.take_add_one, hkv, List.filter_append]
      congr 1
      show List.filter c [(k, v)] = _
      rw [List.filter_cons]
      split <;> rfl
    have hp' : Paired (fun (t : Addr) (kv : Key × V) => G t = some (.tup [kV kv.1, kv.2])) ts ((kvs.take j).filter c) := by
      refine pairedOf hp.length fun n a b ha hb' => ?_
      obtain ⟨y, e1, e2⟩ := LiI.paired_get hp ha
      rw [hb'] at e1
      cases e1
      exact s2 _ _ e2
    refine ⟨hw _, ht k v T G _ (List.mem_of_getElem? hkv) eT fun G' sG => ?_⟩
    have ex' : Ex R H G' := fun b o hb' h => sG _ _ (s2 _ _ (ex b o hb' h))
    have hp2 : Paired (fun (t : Addr) (kv : Key × V) => G' t = some (.tup [kV kv.1, kv.2])) ts ((kvs.take j).filter c) := by
      refine pairedOf hp'.length fun n a b ha hb' => ?_
      obtain ⟨y, e1, e2⟩ := LiI.paired_get hp' ha
      rw [hb'] at e1
      cases e1
      exact sG _ _ e2
    cases hc : c (k, v) with
    | true =>
      rw [if_pos rfl]
      refine he T G' _ ⟨_, sG _ _ (s2 _ _ hb), by rw [List.length_map, sizeLine_eq]; omega, ts ++ [T], ?_, ?_, ?_, ?_, ?_⟩
      · rw [upd_same, List.map_append]
        rfl
      · rw [List.length_append]
        simp
        omega
      · rw [etk, hc, if_pos rfl]
        have nTD : ∀ t kv, G' t = some (.tup [kV kv, v]) → t ≠ D := fun t kv h => ne_of h (sG _ _ (s2 _ _ hb)) (fun z => by cases z)
        refine pairedOf (by simp [hp2.length]) fun n a b ha hb' => ?_
        rw [List.getElem?_append] at ha hb'
        by_cases hn : n < ts.length
        · rw [if_pos hn] at ha
          rw [if_pos (by rw [← hp2.length]; exact hn)] at hb'
          obtain ⟨y, e1, e2⟩ := LiI.paired_get hp2 ha
          rw [hb'] at e1
          cases e1
          rw [upd_ne (ne_of e2 (sG _ _ (s2 _ _ hb)) (fun z => by cases z))]
          exact e2
        · rw [if_neg hn] at ha
          rw [if_neg (by rw [← hp2.length]; exact hn), ← hp2.length] at hb'
          cases hm : n - ts.length with
          | zero =>
            rw [hm] at ha hb'
            cases ha
            cases hb'
            rw [upd_ne (ne_of (sG _ _ eT) (sG _ _ (s2 _ _ hb)) (fun z => by cases z))]
            exact sG _ _ eT
          | succ m =>
            rw [hm] at ha
            cases ha
      · rw [upd_ne hDR.symm]
        exact sG _ _ (s2 _ _ hr)
      · intro b o hb' h
        rw [upd_ne (ne_of_none h hD0)]
        exact ex' b o hb' h
    | false =>
      rw [if_neg (by decide)]
      refine ⟨ts, sG _ _ (s2 _ _ hb), by omega, ?_, sG _ _ (s2 _ _ hr), ex'⟩
      rw [etk, hc, if_neg (by decide), List.append_nil]
      exact hp2
  · rintro H2 ⟨ts, hb, hlen, hp, hr, ex⟩
    rw [List.take_length] at hp
    have tR : ∀ t kv, H2 t = some (.tup kv) → t ≠ R := fun t kv h => ne_of h hr (fun z => by cases z)
    refine ⟨hr, q _ D ts ?_ hD0 ?_ ?_⟩
    · intro b o h
      by_cases e : b = R
      · subst e
        rw [upd_same, ← h, hR]
      · rw [upd_ne e]
        exact ex b o e h
    · rw [upd_ne hDR]
      exact hb
    · refine pairedOf hp.length fun n a b ha hb' => ?_
      obtain ⟨y, e1, e2⟩ := LiI.paired_get hp ha
      rw [hb'] at e1
      cases e1
      rw [upd_ne (tR _ _ e2)]
      exact e2
end Ah

/-! C(e, .., k=v) with keyword-only parameters; try with a tuple of classes; values of a dict -/
namespace Ah
open PySem PySem.Spec PyProof.Rows L2 He
/-- the def at f, called by n positional values and the keywords ks, keeps sp -/
structure FnKw (P : Program) (w : World) (K : Frag) (mg : Str → Option Value) (base : Heap) (k : Nat) (f : Addr) (n : Nat) (ks : List Str) (sp : Sp) : Prop where
  run : ∀ (A : Around) (outer : List Env) (s : Shared) (H : Hp) (us ws : List Value) (vs zs : List V) (Q : VK) (E : XK), Rm k A → Env0 P w K mg base A outer s H → Vals vs us → Vals zs ws → vs.length = n → zs.length = ks.length → sp (vs ++ zs) H Q E →
    codeAny (model P w) A (.call (.ref f) ⟨us, ks.zip ws⟩) (CR (L2.CX P w) outer P w H s Q E) s
  kp : PySem.W.keepIn K (.ref f) = true
theorem okKw {P : Program} {w : World} {K : Frag} {mg : Str → Option Value} {base : Heap} {N ps ks : List Str} {n k : Nat} {sp : Sp} {d : DefG} (S : Stands K d) (h0 : d.dfl = []) (sc : FnScope N ps d.scope) (hps : ps.length = n + ks.length)
    (hb : ∀ (kV doc pm : Value) (an : Option Addr) (cdv ct : Value) (us ws : List Value), us.length = n → ws.length = ks.length → bindArgs (PySem.W.fnOf d.name d.qual d.params d.body d.scope .none kV doc pm an cdv ct) ⟨us, ks.zip ws⟩ = pure (ps.zip (us ++ ws)))
    (hbody : BodyB (L2.CX P w) P w K mg base N d k sp) : FnKw P w K mg base (k + 1) (d.ad K) n ks sp := by
  obtain ⟨fd, F⟩ := S
  have e : d.dvs K = [] := by unfold DefG.dvs; rw [h0]; rfl
  rw [e] at F
  refine ⟨fun A outer s H us ws vs zs Q E hr e0 r rz l1 l2 hsp => ?_, F.kp⟩
  have b : BindsTo s fd ⟨us, ks.zip ws⟩ (ps.zip (us ++ ws)) := by
    obtain ⟨oc, od, dV, kV, doc, pm, an, cdv, ct, osl, rfl, lk, hcd, hdf, _⟩ := F.ex
    have hdV : dV = .none := by
      rcases hdf with ⟨_, z⟩ | ⟨z, _⟩
      · exact z
      · exact absurd rfl z
    subst hdV
    intro M A Q E z
    rw [hb kV doc pm an cdv ct us ws (by rw [← r.length]; exact l1) (by rw [← rz.length]; exact l2)]
    exact wpAny_pure z
  exact body_run F sc hbody hr e0 b (by rw [List.length_append, l1, l2, hps]) (vals_app r rz) hsp
/-- C(.., k=v, ..): a new instance and its dict, then __init__ -/
def tMkK (C : Addr) (n m : Nat) (sp : Sp) (E : XK) (t tk : TA) : TE := fun σ H Q => t σ H fun vs H1 => tk σ H1 fun zs H2 => vs.length = n ∧ zs.length = m ∧ ∀ x dx, H2 x = none → H2 dx = none → dx ≠ x →
  sp (.ref x :: vs ++ zs) (upd (upd H2 dx (.own x)) x (.ins C dx [])) (fun v H3 => v = .non ∧ Q (.ref x) H3) E
section
variable {X : Cx} {k j n : Nat} {f C : Addr} {sp : Sp} {E : XK} {x : Str} {e : Expr} {es : List Expr} {kws : List Keyword} {ks : List Str} {t tk : TA} {p pos : Pos}
theorem pe_mkK (M : Mk X.K C f) (F : FnKw X.prog X.w X.K X.mg X.base k f (n + 1) ks sp) (hr : Rm j X.A) (hm : X.mg x = some (.ref C)) (hx : Passes (L2.CX X.prog X.w) X E) (ha : PA X (e :: es) t) (hkw : PK X kws tk) (hk : k + 1 ≤ j := by decide) (hg : Gl X x := by rfl)
    (hall : (backToKw pos (keywordEach kws X.env)).all (·.1.isSome) = true := by rfl) (hks : (backToKw pos (keywordEach kws X.env)).filterMap (·.1) = ks := by rfl) (hdb : (x == ("__debug__" : Str)) = false := by decide)
    (he : starEach (e :: es) X.env = (false, eval e X.env) :: starEach es X.env := by rfl) (hpl : ((backTo pos (starEach (e :: es) X.env)).any (·.1) || (backToKw pos (keywordEach kws X.env)).any (·.1.isNone)) = false := by rfl) :
    PE X (.Call (.Name x p) (e :: es) kws pos) (tMkK C n ks.length sp E t tk) := by
  refine ⟨fun pins s σ H Q I h => ?_⟩
  refine wpAny_Call_Name_kw (ld_glob I hg hm ?_ hdb)
  refine PySem.W.callWith_KW (h₀ := X.base) I.ok.mod.kin M.kp hall (thn (ha.run pos pins s σ H _ I h) fun us s1 ⟨vs, H1, I1, r, q⟩ => ?_) hpl he
  refine thn (hkw.run pos pins s1 σ H1 _ I1 q) fun ws s2 ⟨zs, H2, I2, rz, l1, l2, q2⟩ => ⟨I2.kIn, ?_⟩
  rw [hks]
  show wpAny _ _ (call (.ref C) us (ks.zip ws)) _ _ _
  have q' := q2 (s2.heap.objs.size + 1) s2.heap.objs.size (I2.hok.fresh (Nat.le_succ _)) (I2.hok.fresh (Nat.le_refl _)) (Nat.ne_of_lt (Nat.lt_succ_self _))
  have I3 := Inv.made (C := C) I2
  have r2 : Vals (V.ref (s2.heap.objs.size + 1) :: vs) (Value.ref (s2.heap.objs.size + 1) :: us) := .cons rfl r
  refine wpAny_call (make_map (f := f) I2.kIn M.makes M.init (beq_iff_eq.mp M.fn) (codeAny_mono (F.run _ X.stack _ _ _ _ _ _ _ E ((hr.mono hk).make C us (ks.zip ws)) (I3.env0.make C us (ks.zip ws)) r2 rz (by rw [List.length_cons, l1]) l2 q') fun res s' hq' => ?_))
  match res, hq' with
  | .error e, hq' => exact hx pins σ _ _ e s' I3 hq'
  | .ok (.ret u), hq' =>
    obtain ⟨v, H', I4, rv, ev, q3⟩ := I3.after hq'
    subst ev
    exact ⟨rv, V.ref (s2.heap.objs.size + 1), H', I4, rfl, q3⟩
end
/-! ### try with clauses of one class or of three -/
/-- a clause: its classes (one, or the tuple's three), the slot of its name, the reading of its suite -/
structure ClauseT where
  cs : List Value
  i : Nat
  ts : Addr → Value → Option Addr → TS
def exmL (K : Frag) (cls : Value) : List Value → Option Bool
  | [c] => PySem.W.exmOne K cls c
  | cs => PySem.W.exmAny K cls cs
/-- what the clauses wish of an exception of the body -/
def wClsT (K : Frag) (Wout : WX) (D : Ends) : List ClauseT → WX
  | [] => Wout
  | k :: r => fun cls d σ H => ∃ b, exmL K cls k.cs = some b ∧ (b = true → ∀ a, H a = none → k.ts a cls d (goneD D k.i) (σ.set k.i (some (.ref a))) H) ∧ (b = false → wClsT K Wout D r cls d σ H)
inductive HdT (X : Cx) : List ExceptHandler → List ClauseT → Prop
  | nil : HdT X [] []
  | cons {x n : Str} {c : Value} {i : Nat} {ts : Addr → Value → Option Addr → TS} {b₀ : Stmt} {suite : List Stmt} {np pos' : Pos} {hds : List ExceptHandler} {l : List ClauseT} (hc : Names X x c) (hi : X.N[i]? = some n) (hln : X.env.kindOf n = some .local)
      (hsu : ∀ (a : Addr) (oe : Obj) (cls : Value) (d : Option Addr) (pn : List (Addr × Obj)), Zc cls d oe → (∃ vs, oe.data = .fields vs) → PSs (X.suite a ((a, oe) :: pn)) (b₀ :: suite) (ts a cls d)) (r : HdT X hds l) :
      HdT X (.ExceptHandler (some (.Name x np)) (some n) (b₀ :: suite) pos' :: hds) (⟨[c], i, ts⟩ :: l)
  | cons3 {x1 x2 x3 n : Str} {c1 c2 c3 : Value} {i : Nat} {ts : Addr → Value → Option Addr → TS} {b₀ : Stmt} {suite : List Stmt} {np1 np2 np3 tpos pos' : Pos} {kk : Nat} {hds : List ExceptHandler} {l : List ClauseT} (hc1 : Names X x1 c1) (hc2 : Names X x2 c2) (hc3 : Names X x3 c3) (hi : X.N[i]? = some n) (hln : X.env.kindOf n = some .local)
      (hsu : ∀ (a : Addr) (oe : Obj) (cls : Value) (d : Option Addr) (pn : List (Addr × Obj)), Zc cls d oe → (∃ vs, oe.data = .fields vs) → PSs (X.suite a ((a, oe) :: pn)) (b₀ :: suite) (ts a cls d)) (r : HdT X hds l) :
      HdT X (.ExceptHandler (some (.Tuple [.Name x1 np1, .Name x2 np2, .Name x3 np3] kk tpos)) (some n) (b₀ :: suite) pos' :: hds) (⟨[c1, c2, c3], i, ts⟩ :: l)
theorem flyingZ_push {B h : Heap} {l : List Env} {e : Addr} {Z : Obj → Prop} (x : HandSPX.FlyingZ B l e Z h) (o : Obj) : HandSPX.FlyingZ B l e Z (h.push o) := by
  obtain ⟨k1, k2, k3, oe, vs, T, oT, ts, he, hz, hd, h1, hnT, hTe, hT, hdT, h3⟩ := x
  exact ⟨fun b o e => Heap.get?_push_of_some _ (k1 b o e), k2, Heap.FunFrames.of_keeps (fun b o e _ => ⟨o, Heap.get?_push_of_some _ e, rfl⟩) k3, oe, vs, T, oT, ts, Heap.get?_push_of_some _ he, hz, hd, h1, hnT, hTe, Heap.get?_push_of_some _ hT, hdT, h3⟩
section
variable {X : Cx} {body : List Stmt} {h₀ : ExceptHandler} {hds : List ExceptHandler} {l : List ClauseT} {pos : Pos} {tb : WX → TS} {Wout : WX}
theorem ps_tryT (hs : X.stack = X.env :: X.outer) (hf : X.env.frame = some X.env.locals) (hN : X.N.Nodup) (tk : Takes X Wout)
    (hb : ∀ (W : WX) (pn : List (Addr × Obj)) (xe : Value → Shared → Prop), Takes (X.tr pn xe) W → PassesOwn (model X.prog X.w) X.A X.env xe → PSs (X.tr pn xe) body (tb W))
    (hh : HdT X (h₀ :: hds) l) : PS X (.Try body (h₀ :: hds) [] [] pos) (fun D σ H => tb (fun cls d σ' H' => σ'.length = X.N.length → wClsT X.K Wout D l cls d σ' H') D σ H) := by
  refine ⟨fun pins s σ H D I h => wpAny_Try_except ?_⟩
  have ok := I.ok
  have hfr : X.A.frames = some (X.env :: X.outer) := by rw [ok.frames, hs]
  refine wpAny_mono ((hb (fun cls d σ' H' => σ'.length = X.N.length → wClsT X.K Wout D l cls d σ' H') (X.pn ++ pins) (fun e s₁ => wpAny (model X.prog X.w) X.A (noteFrame e X.env) (fun _ s₂ => wpAny (model X.prog X.w) X.A (setFlight e none) (fun _ s₃ =>
    wpAny (model X.prog X.w) X.A (handleBy e X.env (h₀ :: hds)) (SP X pins D) X.xe s₃) X.xe s₂) X.xe s₁) (fun u s' xx => ?_) PassesOwn.looking).run [] s σ H D (I.toTry _) h) (fun f s1 hsp => ?_) (fun e s1 he => he)
  · obtain ⟨a, B, sI, pins', σ', H', cls, d, rfl, J', nb, up, sky, na, os, ag, w⟩ := xx
    have J : L2.Inv X pins σ' H' sI := J'.ofTry ok
    replace w := w J.len
    refine Sky.land Zc.steady hfr hf (by rw [← hs]; exact sky) fun h3 fl3 up3 => ?_
    have J3 : L2.Inv X pins σ' H' { s' with heap := h3 } := J.landed nb fl3.1 (up.trans up3) os ag
    obtain ⟨oe3, vs3, he3, hz3, hd3⟩ := fl3.there
    have nfr : a ∉ frs (X.env :: X.outer) := fun hm => by
      obtain ⟨_, o', e', hnf⟩ := fl3.2.2.1.mem hm
      rw [he3] at e'
      cases e'
      exact hnf _ hd3
    have nL : a ≠ X.env.locals := fun z => nfr (List.mem_filterMap.mpr ⟨X.env, List.mem_cons_self, by rw [hf, z]⟩)
    have nF : a ∉ X.fs := fun hm => by
      obtain ⟨e, he, q⟩ := List.mem_filterMap.mp hm
      exact nfr (List.mem_filterMap.mpr ⟨e, List.mem_cons_of_mem _ he, q⟩)
    have go : ∀ {hs' : List ExceptHandler} {l' : List ClauseT}, HdT X hs' l' → ∀ (h3 : Heap), HandSPX.FlyingZ B (X.env :: X.outer) a (Zc cls d) h3 → s'.heap.UpToSlots h3 → wClsT X.K Wout D l' cls d σ' H' → wpAny (model X.prog X.w) X.A (handleBy (.ref a) X.env hs') (SP X pins D) X.xe { s' with heap := h3 } := by
      intro hs' l' hk
      induction hk with
      | nil =>
        intro h3 fl3 up3 w
        refine wpAny_handleBy_nil ?_
        obtain ⟨k1, k2, k3, oe, vs, T, oT, ts', he, hz, hd, h1, hr⟩ := id fl3
        unfold PySem.passOn
        refine wpAny_bind (wpAny_field he hd h1 ?_)
        rw [if_neg (show ¬ ((Value.ref T == Value.none) = true) by simp)]
        have fin : wpAny (model X.prog X.w) X.A (setFlight (.ref a) X.env.frame) (fun _ s4 => wpAny (model X.prog X.w) X.A (throw (.ref a) : Sem Flow) (SP X pins D) X.xe s4) X.xe { s' with heap := h3 } := by
          rw [hf]
          refine HandSPX.setFlight_upZ fl3 fun h4 hh4 up4 => wpAny_throw (tk _ _ ⟨a, B, sI, pins, σ', H', cls, d, rfl, J, nb, (up.trans up3).trans up4, .inr (.inr ?_), na, os, ag, w⟩)
          rw [hs]
          exact hh4
        first
          | exact wpAny_bind (wpAny_pure (wpAny_bind fin))
          | exact wpAny_bind fin
      | @cons x n c i ts b₀ suite np pos' hds2 l2 hc hi hln hsu r ih =>
        intro h3 fl3 up3
        obtain ⟨oe3, vs3, he3, hz3, hd3⟩ := fl3.there
        have J3 : L2.Inv X pins σ' H' { s' with heap := h3 } := J.landed nb fl3.1 (up.trans up3) os ag
        have S3 := J3.suite he3 hd3 na nL nF
        have LT : PySem.W.Looks (model X.prog X.w) h3 (typeOf (.ref a)) cls := fun A Q E s k q => wpAny_typeOf_ref (k _ _ he3) (by rw [hz3.1]; exact q)
        rintro ⟨b, hb1, hyes, hno⟩
        refine wpAny_handleBy_cons (codeAny_handlers_test ?_) (by intro q; cases q)
        have LM := PySem.W.exm_one (M := model X.prog X.w) (J3.kIn) LT hb1
        have test : ∀ {Q : Value → Shared → Prop} {E : Value → Shared → Prop}, Q c { s' with heap := h3 } → wpAny (model X.prog X.w) (X.A.mark (some (.ref a))) (eval (.Name x np) X.env) Q E { s' with heap := h3 } := by
          intro Q E q
          obtain ⟨hg, hdbg, hm | ⟨hm, hv, hnn⟩⟩ := hc
          · exact ld_glob (X := X.suite a ((a, oe3) :: (X.pn ++ pins))) S3 hg hm q hdbg
          · exact ld_blt (X := X.suite a ((a, oe3) :: (X.pn ++ pins))) S3 hg hm hv q hnn hdbg
        refine test (LM.here ?_)
        cases b with
        | true =>
          refine codeAny_handlers_suite_as (HandSPX.lands_againZ fl3 fun h4 fl4 up4 => ?_)
          have J4 : L2.Inv X pins σ' H' { s' with heap := h4 } := J.landed nb fl4.1 ((up.trans up3).trans up4) os ag
          obtain ⟨oe4, vs4, he4, hz4, hd4⟩ := fl4.there
          have S4 := J4.suite he4 hd4 na nL nF
          refine store_ok (X := X.suite a ((a, oe4) :: (X.pn ++ pins))) (v := .ref a) S4 hN hi (.inl hln) rfl (fun s5 S5 => ?_) (.inr hln)
          refine wpAny_mono ((hsu a oe4 cls d (X.pn ++ pins) hz4 ⟨_, hd4⟩).run [] s5 _ H' _ S5 (hyes rfl a na)) (fun f s6 hsp => ?_) (fun _ _ z => False.elim z)
          have end_ : ∀ {σ6 : L2.St} {H6 : Hp} {Q : Shared → Prop}, L2.Inv (X.suite a ((a, oe4) :: (X.pn ++ pins))) [] σ6 H6 s6 → (∀ s7, L2.Inv X pins (σ6.set i none) H6 s7 → Q s7) →
              wpAny (model X.prog X.w) X.A (do bindName X.env n .none; unbindBehindTheSuite X.env n pos') (fun _ s7 => Q s7) X.xe s6 := fun {σ6 H6 Q} S6 hq => gone_ok (S6.unsuite ok) hN hi hln hq
          match f, hsp with
          | .next, ⟨σ6, H6, S6, q6⟩ => exact end_ S6 fun s7 J7 => ⟨_, _, J7, q6⟩
          | .brk, ⟨σ6, H6, S6, q6⟩ => exact end_ S6 fun s7 J7 => ⟨_, _, J7, q6⟩
          | .cont, ⟨σ6, H6, S6, q6⟩ => exact end_ S6 fun s7 J7 => ⟨_, _, J7, q6⟩
          | .ret u, ⟨v6, σ6, H6, S6, r6, q6⟩ => exact end_ S6 fun s7 J7 => ⟨_, _, _, J7, r6, q6⟩
        | false =>
          show wpAny _ X.A (handleBy (.ref a) X.env hds2) _ _ _
          exact ih h3 fl3 up3 (hno rfl)
      | @cons3 x1 x2 x3 n c1 c2 c3 i ts b₀ suite np1 np2 np3 tpos pos' kk hds2 l2 hc1 hc2 hc3 hi hln hsu r ih =>
        intro h30 fl30 up30
        obtain ⟨oe3, vs3, he3, hz3, hd3⟩ := fl30.there
        have J3 : L2.Inv X pins σ' H' { s' with heap := h30 } := J.landed nb fl30.1 (up.trans up30) os ag
        have S3 := J3.suite he3 hd3 na nL nF
        rintro ⟨b, hb1, hyes, hno⟩
        refine wpAny_handleBy_cons (codeAny_handlers_test ?_) (by intro q; cases q)
        have test : ∀ {x : Str} {c : Value} {np : Pos} {Q : Value → Shared → Prop} {E : Value → Shared → Prop}, Names X x c → Q c { s' with heap := h30 } → wpAny (model X.prog X.w) (X.A.mark (some (.ref a))) (eval (.Name x np) X.env) Q E { s' with heap := h30 } := by
          intro x c np Q E hc q
          obtain ⟨hg, hdbg, hm | ⟨hm, hv, hnn⟩⟩ := hc
          · exact ld_glob (X := X.suite a ((a, oe3) :: (X.pn ++ pins))) S3 hg hm q hdbg
          · exact ld_blt (X := X.suite a ((a, oe3) :: (X.pn ++ pins))) S3 hg hm hv q hnn hdbg
        refine Tuple_ (spliced_more (test hc1 (spliced_more (test hc2 (spliced_more (test hc3 (spliced_none (wpAny_newTuple ?_ (show (3 : Nat) ≤ sizeLine by rw [sizeLine_eq]; decide)))))))))
        have fl3 := flyingZ_push fl30 { cls := .type "tuple", data := .seq [c1, c2, c3].toArray }
        have up3 := up30.trans (Heap.UpToSlots.of_keeps (h' := h30.push { cls := .type "tuple", data := .seq [c1, c2, c3].toArray }) fun b o e => Heap.get?_push_of_some _ e)
        have hp : (h30.push { cls := .type "tuple", data := .seq [c1, c2, c3].toArray }).get? h30.objs.size = some { cls := .type "tuple", data := .seq [c1, c2, c3].toArray } := Heap.get?_push_size _ rfl
        have he3' : (h30.push { cls := .type "tuple", data := .seq [c1, c2, c3].toArray }).get? a = some oe3 := Heap.get?_push_of_some _ he3
        generalize h30.push { cls := .type "tuple", data := .seq [c1, c2, c3].toArray } = h3 at fl3 up3 hp he3' ⊢
        have J3' : L2.Inv X pins σ' H' { s' with heap := h3 } := J.landed nb fl3.1 (up.trans up3) os ag
        have LT : PySem.W.Looks (model X.prog X.w) h3 (typeOf (.ref a)) cls := fun A Q E s k q => wpAny_typeOf_ref (k _ _ he3') (by rw [hz3.1]; exact q)
        have LM := PySem.W.exm_tup3 (M := model X.prog X.w) (J3'.kIn) LT hp hb1
        refine LM.here ?_
        cases b with
        | true =>
          refine codeAny_handlers_suite_as (HandSPX.lands_againZ fl3 fun h4 fl4 up4 => ?_)
          have J4 : L2.Inv X pins σ' H' { s' with heap := h4 } := J.landed nb fl4.1 ((up.trans up3).trans up4) os ag
          obtain ⟨oe4, vs4, he4, hz4, hd4⟩ := fl4.there
          have S4 := J4.suite he4 hd4 na nL nF
          refine store_ok (X := X.suite a ((a, oe4) :: (X.pn ++ pins))) (v := .ref a) S4 hN hi (.inl hln) rfl (fun s5 S5 => ?_) (.inr hln)
          refine wpAny_mono ((hsu a oe4 cls d (X.pn ++ pins) hz4 ⟨_, hd4⟩).run [] s5 _ H' _ S5 (hyes rfl a na)) (fun f s6 hsp => ?_) (fun _ _ z => False.elim z)
          have end_ : ∀ {σ6 : L2.St} {H6 : Hp} {Q : Shared → Prop}, L2.Inv (X.suite a ((a, oe4) :: (X.pn ++ pins))) [] σ6 H6 s6 → (∀ s7, L2.Inv X pins (σ6.set i none) H6 s7 → Q s7) →
              wpAny (model X.prog X.w) X.A (do bindName X.env n .none; unbindBehindTheSuite X.env n pos') (fun _ s7 => Q s7) X.xe s6 := fun {σ6 H6 Q} S6 hq => gone_ok (S6.unsuite ok) hN hi hln hq
          match f, hsp with
          | .next, ⟨σ6, H6, S6, q6⟩ => exact end_ S6 fun s7 J7 => ⟨_, _, J7, q6⟩
          | .brk, ⟨σ6, H6, S6, q6⟩ => exact end_ S6 fun s7 J7 => ⟨_, _, J7, q6⟩
          | .cont, ⟨σ6, H6, S6, q6⟩ => exact end_ S6 fun s7 J7 => ⟨_, _, J7, q6⟩
          | .ret u, ⟨v6, σ6, H6, S6, r6, q6⟩ => exact end_ S6 fun s7 J7 => ⟨_, _, _, J7, r6, q6⟩
        | false =>
          show wpAny _ X.A (handleBy (.ref a) X.env hds2) _ _ _
          exact ih h3 fl3 up3 (hno rfl)
    exact go hh _ fl3 up3 w
  · match f, hsp with
    | .next, ⟨σ', H', J', q⟩ => exact wpAny_execs_nil ⟨σ', H', J'.ofTry ok, q⟩
    | .brk, ⟨σ', H', J', q⟩ => exact ⟨σ', H', J'.ofTry ok, q⟩
    | .cont, ⟨σ', H', J', q⟩ => exact ⟨σ', H', J'.ofTry ok, q⟩
    | .ret u, ⟨v, σ', H', J', r, q⟩ => exact ⟨v, σ', H', J'.ofTry ok, r, q⟩
end
end Ah

/-! sorted(d.values(), key=lambda x: ..), the values references, the keys points -/
namespace Ah
open PySem PySem.Spec PySem.Calls PyProof.Rows L2 He LamX
section
variable {X : Cx} {pins : List (Addr × Obj)} {σ : L2.St} {H : Hp} {s : Shared}
open PySem.W in
/-- list.sort(key=f) of a list that lies, fresh, at a -/
theorem sort_keysH {f a : Addr} {h2 : Heap} {tk : Nat} {as : List Addr} {ps : List Pt} {Q : VK} {E' : Value → Shared → Prop} (I : L2.Inv X pins σ H s) (hu : X.A.units + 3 < cLine) (hlen : as.length = ps.length) (hz : as.length ≤ sizeLine)
    (ho : h2.get? a = some (seqObj "list" (as.map Value.ref).toArray 0)) (na : s.heap.objs.size ≤ a) (kp0 : ∀ b o, s.heap.get? b = some o → h2.get? b = some o)
    (turn : ∀ (pn : List (Addr × Obj)) (s : Shared) (b : Addr) (p : Pt), (b, p) ∈ as.zip ps → L2.Inv X (pins ++ pn) σ H s → wpAny (model X.prog X.w) X.A.in1.in1 (call (.ref f) [.ref b]) (fun u s' => ∃ k, u = .ref k ∧ PtAt H k p ∧ L2.Inv X (pins ++ pn) σ H s') (fun _ _ => False) s)
    (q : ∀ (r : Addr) (bs : List (Addr × Pt)), H r = none → bs.Perm (as.zip ps) → bs.Pairwise (fun x y => ptLt y.2 x.2 = false) → Q (.ref r) (upd H r (.lst (bs.map fun x => V.ref x.1)))) :
    wpAny (model X.prog X.w) X.A.in1.in1 (Builtin.«list.sort» ⟨[.ref a], [(Str.ofString "key", .ref f)]⟩) (fun fl s' => fl = .done (.ret .none) ∧ EP X pins σ Q (.ref a) s') E' { s with heap := h2, toks := tk } := by
  have sz : (as.map Value.ref).toArray.size ≤ sizeLine := by simpa using hz
  rw [ksk_t1]
  obtain ⟨e1, ho1⟩ : ∃ e1, (h2.update a (Obj.mapSeq fun _ => (#[] : Array Value))).get? a = some (seqObj "list" #[] e1) := ⟨_, get?_update_seq ho fun _ => #[]⟩
  have ha : a < h2.objs.size := Heap.lt_size ho
  have hkS : ((h2.update a (Obj.mapSeq fun _ => (#[] : Array Value))).push (seqObj "tuple" (as.map Value.ref).toArray 0)).objs.size = h2.objs.size + 1 := by rw [size_push', Heap.size_update]
  unfold ksk_tree
  refine wpAny_bind (listItems_at ho rfl ?_)
  refine wpAny_bind (listUpdate_at ho rfl ?_ sz (Nat.zero_le _))
  refine wpAny_bind (seqEpoch_at ho1 rfl ?_)
  refine wpAny_bind (wpAny_newTuple ?_ (by show (as.map Value.ref).length ≤ _; simpa using hz))
  refine wpAny_bind (wpAny_newList ?_ (Nat.zero_le _))
  refine wpAny_holding ?_
  have le2 : s.heap.objs.size ≤ h2.objs.size + 1 := Nat.le_trans na (Nat.le_of_lt (Nat.lt_succ_of_lt ha))
  have kp : ∀ b o, s.heap.get? b = some o → (sortingHeap h2 a (as.map Value.ref)).get? b = some o := fun b o e =>
    sortingHeap_old (Nat.ne_of_lt (Nat.lt_of_lt_of_le (Heap.lt_size e) na)) (kp0 b o e)
  have I5 := I.kept (t' := tk) kp
  refine keys_rest (as := as) (ps := ps) I5 (I.fpOk na (I.hok.fresh na)) (I.fpOk (by rw [hkS]; exact le2) (I.hok.fresh (by rw [hkS]; exact le2))) (Nat.ne_of_gt (by rw [hkS]; exact Nat.lt_succ_of_lt ha)) (Heap.get?_push_size _ rfl) (Heap.get?_push_of_some _ (Heap.get?_push_of_some _ ho1)) hlen hz hu turn fun s' bs J pm pw => ⟨rfl, .ref a, _, J, rfl, q _ bs (I.hok.fresh na) pm pw⟩
/-- sorted(view, ..): list.sort(..) on a new list of the values -/
theorem sortedV_of_sort {K : Type} [DecidableEq K] {prog : Program} {w : World} {knd : KeyKind prog w K} {A : Around} {E : Value → Shared → Prop} {s : Shared} {r d : Addr} {kvs : List (K × Value)} {ep : Nat} {kw : List (Str × Value)} {Q : Value → Shared → Prop} (hh : A.handled = none) (hv : s.heap.IsValuesView r d) (hm : s.heap.DictAt knd d kvs ep) (hn : kvs.length ≤ sizeLine)
    (ha1 : argsOk "sorted" ⟨[.ref r], kw⟩) (ha2 : ∀ x, argsOk "list.sort" ⟨[.ref x], kw⟩)
    (body : ∀ (E' : Value → Shared → Prop) (h' : Heap) (tk : Nat), (∀ b o, s.heap.get? b = some o → h'.get? b = some o) →
      wpAny (model prog w) A.in1.in1 (Builtin.«list.sort» ⟨[.ref h'.objs.size], kw⟩) (fun f s' => f = .done (.ret .none) ∧ Q (.ref h'.objs.size) s') E' { s with heap := h'.push (seqObj "list" (kvs.map (·.2)).toArray 0), toks := tk }) :
    wpAny (model prog w) A (call (.builtin "sorted") [.ref r] kw) Q E s := by
  refine call_function_entry_kw kind_sorted plain_sorted entry_sorted ha1 ?_
  unfold Builtin.«sorted»
  refine wpAny_bind (m := checkCount "sorted" 1 1 _) (wpAny_pure ?_)
  refine wpAny_bind (PySem.W.kdu_collect (A := A.in1) (PySem.W.kdl_values (knd := knd) (kvs := kvs) (ep := ep)) hh ⟨hv, hm⟩ hn fun h' tk acc hk hacc => ?_)
  have ea : acc.toList = kvs.map (·.2) := by
    have hl : acc.toList.length = kvs.length := by rw [Array.length_toList]; exact hacc.1
    apply List.ext_getElem?
    intro j
    rw [List.getElem?_map]
    cases hj : acc.toList[j]? with
    | none =>
      have h1 := List.getElem?_eq_none_iff.mp hj
      rw [List.getElem?_eq_none (by omega)]
      rfl
    | some v =>
      obtain ⟨k, hen⟩ := hacc.2 j v (by rw [← Array.getElem?_toList]; exact hj)
      rw [hen]
      rfl
  rw [ea]
  have hL : (kvs.map (·.2)).length ≤ sizeLine := by rw [List.length_map]; exact hn
  refine wpAny_bind (wpAny_newList ?_ hL)
  have hoL : (h'.push (seqObj "list" (kvs.map (·.2)).toArray 0)).get? h'.objs.size = some (seqObj "list" (kvs.map (·.2)).toArray 0) := Heap.get?_push_size _ rfl
  show wpAny _ _ _ _ _ { s with heap := h'.push (seqObj "list" (kvs.map (·.2)).toArray 0), toks := tk }
  refine wpAny_bind (wpAny_holding (wpAny_call_entry_kw slot_list_sort ⟨_, hoL, rfl⟩ entry_list_sort ?body (ha2 _)))
  case body =>
    refine wpAny_mono (body _ _ tk hk) (fun f s' hf => ?_) fun _ _ e => e
    obtain ⟨rfl, hq⟩ := hf
    exact ⟨_, rfl, wpAny_pure ⟨_, rfl, hq⟩⟩
end
theorem vals_kv {kvs : List (Key × V)} {vs : List (Key × Value)} {as : List Addr} (kv : KV kvs vs) (h : kvs.map (·.2) = as.map V.ref) : vs.map (·.2) = as.map Value.ref := by
  induction kv generalizing as with
  | nil =>
    cases as with
    | nil => rfl
    | cons a as => cases h
  | cons r _ ih =>
    cases as with
    | nil => cases h
    | cons a as =>
      rw [List.map_cons, List.map_cons] at h ⊢
      have h2 := List.cons.inj h
      rw [ih h2.2]
      obtain ⟨_, r2⟩ := r
      rw [h2.1] at r2
      rw [show _ = Value.ref a from r2]
/-- sorted(e.values(), key=lambda x: ..): t reads the lambda's body -/
def tSortKV (T : List (Addr × Str)) (te : TE) (N : List Str) (t : TE) : TE := fun σ H Q => te σ H fun x H1 => ∃ (d : Addr) (kvs : List (Key × V)) (as : List Addr) (ps : List Pt), x = .ref d ∧ H1 d = some (.dK kvs) ∧ kvs.map (·.2) = as.map V.ref ∧ as.length = ps.length ∧ Tabs T H1 ∧ ∀ H2, ExtN H1 H2 → Tabs T H2 →
  (∀ b p, (b, p) ∈ as.zip ps → t (L2.start N [.ref b]) H2 fun v H3 => H3 = H2 ∧ ∃ k, v = .ref k ∧ PtAt H2 k p) ∧
    ∀ (r : Addr) (bs : List (Addr × Pt)), H2 r = none → bs.Perm (as.zip ps) → bs.Pairwise (fun x y => ptLt y.2 x.2 = false) → Q (.ref r) (upd H2 r (.lst (bs.map fun x => V.ref x.1)))
section
variable {X : Cx}
theorem pe_sortKV {T : List (Addr × Str)} {c P : Addr} {k j : Nat} {x : Str} {e : Expr} {params : Arguments} {body : Expr} {scope : Scope} {te : TE} {t : TE} {N : List Str} {p lpos kpos pos apos cpos : Pos}
    (hs : X.stack = X.env :: X.outer) (hf0 : X.env.frame = some X.env.locals) (hm : X.mg "sorted" = none) (hc : X.calm = true) (he : PE X e te)
    (TB : TabB X.base X.mg c P) (hcode : X.env.code = .ref c) (hmT : (P, X.env.qual ++ "<lambda>") ∈ T) (hu : ∀ p ∈ T, p.1 = P → p.2 = X.env.qual ++ "<lambda>") (hr : Rm j X.A) (S : FnScope N [x] scope) (hnf : ∀ y ∈ scope.names, y.2 ≠ .free)
    (hbody : ∀ (A : Around) (outer : List Env) (s : Shared) (H : Hp) (f c' : Addr), Rm k (A.deeper (envOfC (X.env.qual ++ "<lambda>") scope s.heap.objs.size f (.ref c'))) → PE (cxOf L2.CX0 X.prog X.w X.K X.mg X.base N (X.env.qual ++ "<lambda>") scope f (.ref c') A outer s H L2.E0) body t)
    (hk : k + 3 ≤ j := by decide) (hg : Gl X "sorted" := by rfl) (hdef : defaultsOf params X.env = ([], []) := by rfl)
    (hbind : ∀ (q : Str) (pm cv ctv u : Value), bindArgs (PySem.W.kla_fn "<lambda>" q params body scope [] pm cv ctv) ⟨[u], []⟩ = pure [(x, u)] := by intro _ _ _ _ _; rfl)
    (hbase : attributeBase e "values" X.env (eval e X.env) = eval e X.env := by rfl) (hline : (apos.endLine == cpos.line) = true := by rfl)
    (hbk : backTo pos (starEach [.Call (.Attribute e "values" apos) [] [] cpos] X.env) = (false, eval (.Call (.Attribute e "values" apos) [] [] cpos) X.env) :: backTo pos (starEach [] X.env) := by rfl) (hpl : (backTo pos (starEach [.Call (.Attribute e "values" apos) [] [] cpos] X.env)).any (·.1) = false := by rfl) :
    PE X (.Call (.Name "sorted" p) [.Call (.Attribute e "values" apos) [] [] cpos] [⟨some "key", .Lambda params body scope lpos, kpos⟩] pos) (tSortKV T te N t) := by
  refine ⟨fun pins s σ H Q I h => ?_⟩
  refine wpAny_Call_Name_kw (ld_blt I hg hm (show bootBuiltins "sorted" = some (.builtin "sorted") by decide +kernel) ?_ (by decide) (by decide))
  refine PyProof.Rows.callWith_kw ?_ hbk hpl
  rw [hbk]
  refine Calls.spliced_cons ?_
  refine wpAny_Call_method (T := "dict") (id := "dict.values") hbase rfl hline F.plainAttrs_dict F.slot_dict_values F.type_dict_values (thn (he.run pins s σ H _ I h) fun u s1 ⟨x, H1, I1, rx, d, kvs, as, ps, ex, hd, has, hlen, hT, q1⟩ => ?_)
  subst ex
  obtain rfl : u = Value.ref d := rx
  obtain ⟨hz, hs0, vs, kv, hdo⟩ := I1.hok d _ hd
  obtain ⟨ep, hat⟩ := hdo.dictAt
  have lk : kvs.length = vs.length := Paired.length kv
  have ev : vs.map (·.2) = as.map Value.ref := vals_kv kv has
  have I2 : L2.Inv X pins σ H1 { s1 with heap := s1.heap.push { cls := .type "dict_values", data := .fields #[.ref d] } } := I1.kept (t' := s1.toks) fun b ob q => Heap.get?_push_of_some _ q
  refine ⟨hdo.typeIs, hdo.mapOf.noDict, ?_⟩
  show wpAny _ _ (callWith cpos (.builtin "dict.values") [.ref d] [] []) _ X.xe s1
  refine method_meetsIn F.slot_dict_values F.entry_dict_values rfl (PySem.evalArgs_none ⟨rfl, hdo.typeIs, F.args_dict_values_1 _, _, meets_dict_values (mixKind X.prog X.w) d hs0, ⟨vs, hdo⟩, ?_⟩)
  refine Calls.spliced_nil ?_
  have frs_of : ∀ {f : Addr}, f ∉ frs X.stack → f ≠ X.env.locals ∧ f ∉ X.fs := fun {f} hfr => by
    have e : frs X.stack = X.env.locals :: X.fs := by
      rw [hs]
      show List.filterMap _ _ = _
      rw [List.filterMap_cons, hf0]
      rfl
    rw [e] at hfr
    exact ⟨fun z => hfr (by simp [z]), fun z => hfr (List.mem_cons_of_mem _ z)⟩
  -- the view stays
  obtain ⟨v1, v2, v3, _⟩ := I1.fpOk (Nat.le_refl s1.heap.objs.size) (I1.hok.fresh (Nat.le_refl _))
  have I2v : L2.Inv X (pins ++ [(s1.heap.objs.size, { cls := .type "dict_values", data := .fields #[.ref d] })]) σ H1 { s1 with heap := s1.heap.push { cls := .type "dict_values", data := .fields #[.ref d] } } := I2.pins_of fun p hp => (List.mem_append.mp hp).elim (fun z => I2.pin p (List.mem_append_right _ z)) fun z => by
    rw [List.mem_singleton] at z
    subst z
    exact ⟨Heap.get?_push_size _ rfl, v1, v2, v3, fun v z => by cases z⟩
  generalize hV : s1.heap.objs.size = rV at I2v ⊢
  show wpAny _ _ (evalAll ((do let v ← eval (.Lambda params body scope lpos) X.env; standAt pos; pure v) :: [])) _ _ _
  refine wpAny_evalAll_cons (wpAny_bind (lam_make2 I2v TB hcode hmT hu hT hdef (fun y hy e => absurd e (hnf y hy)) fun f c' pm ctv H2 s2 I3 eN T2 hf hfn hfr hco => wpAny_bind (wpAny_standAt (wpAny_pure (wpAny_evalAll_nil ?_)))))
  obtain ⟨hkey, q⟩ := q1 H2 eN T2
  rw [clo_nil hnf] at hf
  have nfr := frs_of hfr
  have hview : s2.heap.IsValuesView rV d := ⟨_, (I3.pin (rV, { cls := .type "dict_values", data := .fields #[.ref d] }) (by simp)).1, rfl, rfl⟩
  have hd2 : H2 d = some (.dK kvs) := eN _ _ hd (fun ps z => by cases z)
  obtain ⟨hz2, hs2, vs2, kv2, hdo2⟩ := I3.hok d _ hd2
  obtain ⟨ep2, hat2⟩ := hdo2.dictAt
  have lk2 : kvs.length = vs2.length := Paired.length kv2
  have ev2 : vs2.map (·.2) = as.map Value.ref := vals_kv kv2 has
  have I4 : L2.Inv X (pins ++ [(f, PySem.W.kla_obj "<lambda>" (X.env.qual ++ "<lambda>") params body scope [] pm c' ctv)]) σ H2 s2 := I3.pins_of fun p hp => (List.mem_append.mp hp).elim (fun z => I3.pin p (List.mem_append_right _ (List.mem_append_left _ z))) fun z => by
    rw [List.mem_singleton] at z
    subst z
    exact ⟨hf, hfn, nfr.1, nfr.2, fun v z => by cases z⟩
  have lz : as.length ≤ sizeLine := by
    have z := congrArg List.length ev2
    rw [List.length_map, List.length_map] at z
    omega
  refine sortedV_of_sort (I4.ok.hd hc) hview hat2 (by omega) (ksk_s1 _ _) (fun x => ksk_l1 _ _) fun E' h' tk hk' => ?_
  rw [ev2]
  have I5 : L2.Inv X (pins ++ [(f, PySem.W.kla_obj "<lambda>" (X.env.qual ++ "<lambda>") params body scope [] pm c' ctv)]) σ H2 { s2 with heap := h', toks := tk } := I4.kept hk'
  have go := sort_keysH (Q := Q) (f := f) (a := h'.objs.size) (h2 := h'.push (seqObj "list" (as.map Value.ref).toArray 0)) (tk := tk) (E' := E') I5 (by have := hr.r.un; omega) hlen lz (Heap.get?_push_size _ rfl) (Nat.le_refl _) (fun b o e => Heap.get?_push_of_some _ e) (fun pn s b p hm J => ?_) q
  · refine wpAny_mono go (fun u s' hq => ?_) fun _ _ e => e
    obtain ⟨e1, v, H', J, rv, hq⟩ := hq
    exact ⟨e1, v, H', J.unpinned, rv, hq⟩
  · have hf' := (J.pin (f, PySem.W.kla_obj "<lambda>" (X.env.qual ++ "<lambda>") params body scope [] pm c' ctv) (by simp)).1
    have hr2 : Rm (k + 1) X.A.in1.in1 := (Rm.in1 (k := k + 1) (Rm.in1 (k := k + 2) (hr.mono (by omega))))
    have rc := lam_run1 (A := X.A.in1.in1) (v := .ref b) (Q := fun v H3 => H3 = H2 ∧ ∃ k, v = .ref k ∧ PtAt H2 k p) J.env0.in1.in1 hr2 S hf' hco (hbind _ _ _ _ (.ref b)) rfl (fun hr' => hbody _ _ _ _ _ _ hr') (hkey b p hm)
    refine wpAny_call (codeAny_mono rc fun r s' hq => ?_)
    match r, hq with
    | .ok (.ret u), hq =>
      obtain ⟨v, H', J', rv, rfl, kk, rfl, hp⟩ := J.after hq
      exact ⟨kk, rv, hp, J'⟩
end
theorem pe_or {X : Cx} {e : Expr} {t1 t2 : TE} (h1 : PE X e t1) (h2 : PE X e t2) : PE X e (fun σ H Q => t1 σ H Q ∨ t2 σ H Q) := ⟨fun pins s σ H Q I h => h.elim (h1.run pins s σ H Q I) (h2.run pins s σ H Q I)⟩
theorem exm3 {K : Frag} {cls c1 c2 c3 : Value} {b1 b2 b3 : Bool} (h1 : PySem.W.exmOne K cls c1 = some b1) (h2 : PySem.W.exmOne K cls c2 = some b2) (h3 : PySem.W.exmOne K cls c3 = some b3) : exmL K cls [c1, c2, c3] = some (b1 || (b2 || (b3 || false))) := by
  show PySem.W.exmAny K cls [c1, c2, c3] = _
  simp only [PySem.W.exmAny, h1, h2, h3]
/-- a comprehension over the values of a locked dict: those that c takes -/
theorem lc_vals {td : TE} {te : TE} {tt : TT} {σ : L2.St} {i : Nat} {H : Hp} {R : Addr} {kvs : List (Key × V)} {c : Key × V → Bool} {Q : VK} (hR : H R = some (.dK kvs)) (few : kvs.length ≤ 10000)
    (hd : ∀ G Q', Ex R H G → Q' (.ref R) G → td σ G Q')
    (ht : ∀ k v G Q', (k, v) ∈ kvs → Ex R H G → (∀ G', Same G G' → Q' (c (k, v)) G') → tt ((wipe σ [i]).set i (some v)) G Q')
    (he : ∀ v G Q', Q' v G → te ((wipe σ [i]).set i (some v)) G Q')
    (hw : ∀ x, wipe ((wipe σ [i]).set i (some x)) [i] = wipe σ [i])
    (q : ∀ H' D, Same H H' → H D = none → H' D = some (.lst ((kvs.filter c).map (·.2))) → Q (.ref D) H') : tLockE (tLc (iVals td) (gName i) tt te [i]) σ H Q := by
  refine ⟨R, .dK kvs, hR, trivial, fun od => ?_⟩
  have exL : Ex R H (upd H R (.frz od (.dK kvs))) := Ex.refl.upd
  refine hd _ _ exL ⟨R, od, kvs, rfl, upd_same, fun D hD => ?_⟩
  have hDR : D ≠ R := fun z => by
    rw [z, upd_same] at hD
    cases hD
  have hD0 : H D = none := by
    rw [upd_ne hDR] at hD
    exact hD
  refine lc_it walk_values (fun j H2 => H2 D = some (.lst (((kvs.take j).filter c).map (·.2))) ∧ H2 R = some (.frz od (.dK kvs)) ∧ Ex R H H2) ?_ (fun j H2 _ h => h.2.1) ?_ ?_
  · refine ⟨upd_same, (by rw [upd_ne hDR.symm, upd_same]), fun b o hb h => ?_⟩
    rw [upd_ne (ne_of_none h hD0), upd_ne hb]
    exact h
  · rintro j x H2 H3 hj ⟨hb, hr, ex⟩ ⟨rfl, k, hkv⟩
    have etk : (kvs.take (j + 1)).filter c = (kvs.take j).filter c ++ (if c (k, x) then [(k, x)] else []) := by
      rw [List.take_add_one, hkv, List.filter_append]
      congr 1
      show List.filter c [(k, x)] = _
      rw [List.filter_cons]
      split <;> rfl
    refine ⟨hw _, ht k x H3 _ (List.mem_of_getElem? hkv) ex fun G' sG => ?_⟩
    have ex' : Ex R H G' := fun b o hb' h => sG _ _ (ex b o hb' h)
    cases hc : c (k, x) with
    | true =>
      rw [if_pos rfl]
      have hlen : ((kvs.take j).filter c).length ≤ 10000 := Nat.le_trans (List.length_filter_le _ _) (by rw [List.length_take]; omega)
      refine he x G' _ ⟨_, sG _ _ hb, by rw [List.length_map, sizeLine_eq]; omega, ?_, ?_, ?_⟩
      · rw [upd_same, etk, hc, if_pos rfl, List.map_append]
        rfl
      · rw [upd_ne hDR.symm]
        exact sG _ _ hr
      · intro b o hb' h
        rw [upd_ne (ne_of_none h hD0)]
        exact ex' b o hb' h
    | false =>
      rw [if_neg (by decide)]
      refine ⟨?_, sG _ _ hr, ex'⟩
      rw [etk, hc, if_neg (by decide), List.append_nil]
      exact sG _ _ hb
  · rintro H2 ⟨hb, hr, ex⟩
    rw [List.take_length] at hb
    refine ⟨hr, q _ D ?_ hD0 ?_⟩
    · intro b o h
      by_cases e : b = R
      · subst e
        rw [upd_same, ← h, hR]
      · rw [upd_ne e]
        exact ex b o e h
    · rw [upd_ne hDR]
      exact hb
end Ah

/-! try with clauses of one to six classes -/
namespace Ah
section
open PySem PySem.Spec PySem.Calls PyProof.Rows PySem.W
theorem exm_tup6 {M : Model} {K : PySem.W.Frag} {c1 c2 c3 c4 c5 c6 cls : Value} {tp e : Addr} {b : Bool} {h : Heap} (X : K.In h) (LT : PySem.W.Looks M h (typeOf (.ref e)) cls) (hp : h.get? tp = some { cls := .type "tuple", data := .seq [c1, c2, c3, c4, c5, c6].toArray }) (hx : PySem.W.exmAny K cls [c1, c2, c3, c4, c5, c6] = some b) :
    PySem.W.Looks M h (excMatches (.ref e) (.ref tp)) b := by
  intro A Q E s k₀ q
  obtain ⟨hh, g, d, tk, os⟩ := s
  have k : ∀ b o, h.get? b = some o → hh.get? b = some o := k₀
  have LT0 : Looks M h (isInstance (.ref tp) (.type "tuple")) true := ((Looks.ld hp).andThen .now).andThen (Looks.of_pure isSubtype_tuple_tuple)
  obtain ⟨b1, d1, x1, y1, z1⟩ := exmAny_cons hx
  obtain ⟨e1, S1⟩ := exm_cls (M := M) X x1
  have e1 := e1.keeps k
  have S1 := S1.keeps k
  obtain ⟨b2, d2, x2, y2, z2⟩ := exmAny_cons y1
  obtain ⟨e2, S2⟩ := exm_cls (M := M) X x2
  have e2 := e2.keeps k
  have S2 := S2.keeps k
  obtain ⟨b3, d3, x3, y3, z3⟩ := exmAny_cons y2
  obtain ⟨e3, S3⟩ := exm_cls (M := M) X x3
  have e3 := e3.keeps k
  have S3 := S3.keeps k
  obtain ⟨b4, d4, x4, y4, z4⟩ := exmAny_cons y3
  obtain ⟨e4, S4⟩ := exm_cls (M := M) X x4
  have e4 := e4.keeps k
  have S4 := S4.keeps k
  obtain ⟨b5, d5, x5, y5, z5⟩ := exmAny_cons y4
  obtain ⟨e5, S5⟩ := exm_cls (M := M) X x5
  have e5 := e5.keeps k
  have S5 := S5.keeps k
  obtain ⟨b6, d6, x6, y6, z6⟩ := exmAny_cons y5
  obtain ⟨e6, S6⟩ := exm_cls (M := M) X x6
  have e6 := e6.keeps k
  have S6 := S6.keeps k
  have w6 : some false = some d6 := y6
  cases w6
  have LT := LT.keeps k
  have LT0 := LT0.keeps k
  have hp' := k _ _ hp
  subst z1 z2 z3 z4 z5 z6
  unfold excMatches
  refine wpAny_bind (LT0.at ?_)
  dsimp only
  rw [if_pos rfl]
  first
    | refine wpAny_bind (wpAny_seqItems hp' rfl ?_)
    | refine wpAny_bind (wpAny_bind (wpAny_seqItems hp' rfl (wpAny_pure ?_)))
  dsimp only [Option.getD_some, Option.getD]
  cases b1 with
  | true => ((repeat (first | simp only [List.forIn_cons, List.forIn_nil, Bool.not_true, Bool.false_eq_true, if_false, if_true] | lk)); first | exact q | (simp only [Bool.true_or, Bool.false_or, Bool.or_true] at q; exact q))
  | false =>
    cases b2 with
    | true => ((repeat (first | simp only [List.forIn_cons, List.forIn_nil, Bool.not_true, Bool.false_eq_true, if_false, if_true] | lk)); first | exact q | (simp only [Bool.true_or, Bool.false_or, Bool.or_true] at q; exact q))
    | false =>
      cases b3 with
      | true => ((repeat (first | simp only [List.forIn_cons, List.forIn_nil, Bool.not_true, Bool.false_eq_true, if_false, if_true] | lk)); first | exact q | (simp only [Bool.true_or, Bool.false_or, Bool.or_true] at q; exact q))
      | false =>
        cases b4 with
        | true => ((repeat (first | simp only [List.forIn_cons, List.forIn_nil, Bool.not_true, Bool.false_eq_true, if_false, if_true] | lk)); first | exact q | (simp only [Bool.true_or, Bool.false_or, Bool.or_true] at q; exact q))
        | false =>
          cases b5 with
          | true => ((repeat (first | simp only [List.forIn_cons, List.forIn_nil, Bool.not_true, Bool.false_eq_true, if_false, if_true] | lk)); first | exact q | (simp only [Bool.true_or, Bool.false_or, Bool.or_true] at q; exact q))
          | false =>
            cases b6 with
            | true => ((repeat (first | simp only [List.forIn_cons, List.forIn_nil, Bool.not_true, Bool.false_eq_true, if_false, if_true] | lk)); first | exact q | (simp only [Bool.true_or, Bool.false_or, Bool.or_true] at q; exact q))
            | false =>
              ((repeat (first | simp only [List.forIn_cons, List.forIn_nil, Bool.not_true, Bool.false_eq_true, if_false, if_true] | lk)); exact q)
end
open PySem PySem.Spec PyProof.Rows L2 He
inductive HdU (X : Cx) : List ExceptHandler → List ClauseT → Prop
  | nil : HdU X [] []
  | cons {x n : Str} {c : Value} {i : Nat} {ts : Addr → Value → Option Addr → TS} {b₀ : Stmt} {suite : List Stmt} {np pos' : Pos} {hds : List ExceptHandler} {l : List ClauseT} (hc : Names X x c) (hi : X.N[i]? = some n) (hln : X.env.kindOf n = some .local)
      (hsu : ∀ (a : Addr) (oe : Obj) (cls : Value) (d : Option Addr) (pn : List (Addr × Obj)), Zc cls d oe → (∃ vs, oe.data = .fields vs) → PSs (X.suite a ((a, oe) :: pn)) (b₀ :: suite) (ts a cls d)) (r : HdU X hds l) :
      HdU X (.ExceptHandler (some (.Name x np)) (some n) (b₀ :: suite) pos' :: hds) (⟨[c], i, ts⟩ :: l)
  | cons2 {x1 x2 n : Str} {c1 c2 : Value} {i : Nat} {ts : Addr → Value → Option Addr → TS} {b₀ : Stmt} {suite : List Stmt} {np1 np2 tpos pos' : Pos} {kk : Nat} {hds : List ExceptHandler} {l : List ClauseT} (hc1 : Names X x1 c1) (hc2 : Names X x2 c2) (hi : X.N[i]? = some n) (hln : X.env.kindOf n = some .local)
      (hsu : ∀ (a : Addr) (oe : Obj) (cls : Value) (d : Option Addr) (pn : List (Addr × Obj)), Zc cls d oe → (∃ vs, oe.data = .fields vs) → PSs (X.suite a ((a, oe) :: pn)) (b₀ :: suite) (ts a cls d)) (r : HdU X hds l) :
      HdU X (.ExceptHandler (some (.Tuple [.Name x1 np1, .Name x2 np2] kk tpos)) (some n) (b₀ :: suite) pos' :: hds) (⟨[c1, c2], i, ts⟩ :: l)
  | cons3 {x1 x2 x3 n : Str} {c1 c2 c3 : Value} {i : Nat} {ts : Addr → Value → Option Addr → TS} {b₀ : Stmt} {suite : List Stmt} {np1 np2 np3 tpos pos' : Pos} {kk : Nat} {hds : List ExceptHandler} {l : List ClauseT} (hc1 : Names X x1 c1) (hc2 : Names X x2 c2) (hc3 : Names X x3 c3) (hi : X.N[i]? = some n) (hln : X.env.kindOf n = some .local)
      (hsu : ∀ (a : Addr) (oe : Obj) (cls : Value) (d : Option Addr) (pn : List (Addr × Obj)), Zc cls d oe → (∃ vs, oe.data = .fields vs) → PSs (X.suite a ((a, oe) :: pn)) (b₀ :: suite) (ts a cls d)) (r : HdU X hds l) :
      HdU X (.ExceptHandler (some (.Tuple [.Name x1 np1, .Name x2 np2, .Name x3 np3] kk tpos)) (some n) (b₀ :: suite) pos' :: hds) (⟨[c1, c2, c3], i, ts⟩ :: l)
  | cons4 {x1 x2 x3 x4 n : Str} {c1 c2 c3 c4 : Value} {i : Nat} {ts : Addr → Value → Option Addr → TS} {b₀ : Stmt} {suite : List Stmt} {np1 np2 np3 np4 tpos pos' : Pos} {kk : Nat} {hds : List ExceptHandler} {l : List ClauseT} (hc1 : Names X x1 c1) (hc2 : Names X x2 c2) (hc3 : Names X x3 c3) (hc4 : Names X x4 c4) (hi : X.N[i]? = some n) (hln : X.env.kindOf n = some .local)
      (hsu : ∀ (a : Addr) (oe : Obj) (cls : Value) (d : Option Addr) (pn : List (Addr × Obj)), Zc cls d oe → (∃ vs, oe.data = .fields vs) → PSs (X.suite a ((a, oe) :: pn)) (b₀ :: suite) (ts a cls d)) (r : HdU X hds l) :
      HdU X (.ExceptHandler (some (.Tuple [.Name x1 np1, .Name x2 np2, .Name x3 np3, .Name x4 np4] kk tpos)) (some n) (b₀ :: suite) pos' :: hds) (⟨[c1, c2, c3, c4], i, ts⟩ :: l)
  | cons6 {x1 x2 x3 x4 x5 x6 n : Str} {c1 c2 c3 c4 c5 c6 : Value} {i : Nat} {ts : Addr → Value → Option Addr → TS} {b₀ : Stmt} {suite : List Stmt} {np1 np2 np3 np4 np5 np6 tpos pos' : Pos} {kk : Nat} {hds : List ExceptHandler} {l : List ClauseT} (hc1 : Names X x1 c1) (hc2 : Names X x2 c2) (hc3 : Names X x3 c3) (hc4 : Names X x4 c4) (hc5 : Names X x5 c5) (hc6 : Names X x6 c6) (hi : X.N[i]? = some n) (hln : X.env.kindOf n = some .local)
      (hsu : ∀ (a : Addr) (oe : Obj) (cls : Value) (d : Option Addr) (pn : List (Addr × Obj)), Zc cls d oe → (∃ vs, oe.data = .fields vs) → PSs (X.suite a ((a, oe) :: pn)) (b₀ :: suite) (ts a cls d)) (r : HdU X hds l) :
      HdU X (.ExceptHandler (some (.Tuple [.Name x1 np1, .Name x2 np2, .Name x3 np3, .Name x4 np4, .Name x5 np5, .Name x6 np6] kk tpos)) (some n) (b₀ :: suite) pos' :: hds) (⟨[c1, c2, c3, c4, c5, c6], i, ts⟩ :: l)
section
variable {X : Cx} {body : List Stmt} {h₀ : ExceptHandler} {hds : List ExceptHandler} {l : List ClauseT} {pos : Pos} {tb : WX → TS} {Wout : WX}
theorem ps_tryU (hs : X.stack = X.env :: X.outer) (hf : X.env.frame = some X.env.locals) (hN : X.N.Nodup) (tk : Takes X Wout)
    (hb : ∀ (W : WX) (pn : List (Addr × Obj)) (xe : Value → Shared → Prop), Takes (X.tr pn xe) W → PassesOwn (model X.prog X.w) X.A X.env xe → PSs (X.tr pn xe) body (tb W))
    (hh : HdU X (h₀ :: hds) l) : PS X (.Try body (h₀ :: hds) [] [] pos) (fun D σ H => tb (fun cls d σ' H' => σ'.length = X.N.length → wClsT X.K Wout D l cls d σ' H') D σ H) := by
  refine ⟨fun pins s σ H D I h => wpAny_Try_except ?_⟩
  have ok := I.ok
  have hfr : X.A.frames = some (X.env :: X.outer) := by rw [ok.frames, hs]
  refine wpAny_mono ((hb (fun cls d σ' H' => σ'.length = X.N.length → wClsT X.K Wout D l cls d σ' H') (X.pn ++ pins) (fun e s₁ => wpAny (model X.prog X.w) X.A (noteFrame e X.env) (fun _ s₂ => wpAny (model X.prog X.w) X.A (setFlight e none) (fun _ s₃ =>
    wpAny (model X.prog X.w) X.A (handleBy e X.env (h₀ :: hds)) (SP X pins D) X.xe s₃) X.xe s₂) X.xe s₁) (fun u s' xx => ?_) PassesOwn.looking).run [] s σ H D (I.toTry _) h) (fun f s1 hsp => ?_) (fun e s1 he => he)
  · obtain ⟨a, B, sI, pins', σ', H', cls, d, rfl, J', nb, up, sky, na, os, ag, w⟩ := xx
    have J : L2.Inv X pins σ' H' sI := J'.ofTry ok
    replace w := w J.len
    refine Sky.land Zc.steady hfr hf (by rw [← hs]; exact sky) fun h3 fl3 up3 => ?_
    have J3 : L2.Inv X pins σ' H' { s' with heap := h3 } := J.landed nb fl3.1 (up.trans up3) os ag
    obtain ⟨oe3, vs3, he3, hz3, hd3⟩ := fl3.there
    have nfr : a ∉ frs (X.env :: X.outer) := fun hm => by
      obtain ⟨_, o', e', hnf⟩ := fl3.2.2.1.mem hm
      rw [he3] at e'
      cases e'
      exact hnf _ hd3
    have nL : a ≠ X.env.locals := fun z => nfr (List.mem_filterMap.mpr ⟨X.env, List.mem_cons_self, by rw [hf, z]⟩)
    have nF : a ∉ X.fs := fun hm => by
      obtain ⟨e, he, q⟩ := List.mem_filterMap.mp hm
      exact nfr (List.mem_filterMap.mpr ⟨e, List.mem_cons_of_mem _ he, q⟩)
    have go : ∀ {hs' : List ExceptHandler} {l' : List ClauseT}, HdU X hs' l' → ∀ (h3 : Heap), HandSPX.FlyingZ B (X.env :: X.outer) a (Zc cls d) h3 → s'.heap.UpToSlots h3 → wClsT X.K Wout D l' cls d σ' H' → wpAny (model X.prog X.w) X.A (handleBy (.ref a) X.env hs') (SP X pins D) X.xe { s' with heap := h3 } := by
      intro hs' l' hk
      induction hk with
      | nil =>
        intro h3 fl3 up3 w
        refine wpAny_handleBy_nil ?_
        obtain ⟨k1, k2, k3, oe, vs, T, oT, ts', he, hz, hd, h1, hr⟩ := id fl3
        unfold PySem.passOn
        refine wpAny_bind (wpAny_field he hd h1 ?_)
        rw [if_neg (show ¬ ((Value.ref T == Value.none) = true) by simp)]
        have fin : wpAny (model X.prog X.w) X.A (setFlight (.ref a) X.env.frame) (fun _ s4 => wpAny (model X.prog X.w) X.A (throw (.ref a) : Sem Flow) (SP X pins D) X.xe s4) X.xe { s' with heap := h3 } := by
          rw [hf]
          refine HandSPX.setFlight_upZ fl3 fun h4 hh4 up4 => wpAny_throw (tk _ _ ⟨a, B, sI, pins, σ', H', cls, d, rfl, J, nb, (up.trans up3).trans up4, .inr (.inr ?_), na, os, ag, w⟩)
          rw [hs]
          exact hh4
        first
          | exact wpAny_bind (wpAny_pure (wpAny_bind fin))
          | exact wpAny_bind fin
      | @cons x n c i ts b₀ suite np pos' hds2 l2 hc hi hln hsu r ih =>
        intro h3 fl3 up3
        obtain ⟨oe3, vs3, he3, hz3, hd3⟩ := fl3.there
        have J3 : L2.Inv X pins σ' H' { s' with heap := h3 } := J.landed nb fl3.1 (up.trans up3) os ag
        have S3 := J3.suite he3 hd3 na nL nF
        have LT : PySem.W.Looks (model X.prog X.w) h3 (typeOf (.ref a)) cls := fun A Q E s k q => wpAny_typeOf_ref (k _ _ he3) (by rw [hz3.1]; exact q)
        rintro ⟨b, hb1, hyes, hno⟩
        refine wpAny_handleBy_cons (codeAny_handlers_test ?_) (by intro q; cases q)
        have LM := PySem.W.exm_one (M := model X.prog X.w) (J3.kIn) LT hb1
        have test : ∀ {Q : Value → Shared → Prop} {E : Value → Shared → Prop}, Q c { s' with heap := h3 } → wpAny (model X.prog X.w) (X.A.mark (some (.ref a))) (eval (.Name x np) X.env) Q E { s' with heap := h3 } := by
          intro Q E q
          obtain ⟨hg, hdbg, hm | ⟨hm, hv, hnn⟩⟩ := hc
          · exact ld_glob (X := X.suite a ((a, oe3) :: (X.pn ++ pins))) S3 hg hm q hdbg
          · exact ld_blt (X := X.suite a ((a, oe3) :: (X.pn ++ pins))) S3 hg hm hv q hnn hdbg
        refine test (LM.here ?_)
        cases b with
        | true =>
          refine codeAny_handlers_suite_as (HandSPX.lands_againZ fl3 fun h4 fl4 up4 => ?_)
          have J4 : L2.Inv X pins σ' H' { s' with heap := h4 } := J.landed nb fl4.1 ((up.trans up3).trans up4) os ag
          obtain ⟨oe4, vs4, he4, hz4, hd4⟩ := fl4.there
          have S4 := J4.suite he4 hd4 na nL nF
          refine store_ok (X := X.suite a ((a, oe4) :: (X.pn ++ pins))) (v := .ref a) S4 hN hi (.inl hln) rfl (fun s5 S5 => ?_) (.inr hln)
          refine wpAny_mono ((hsu a oe4 cls d (X.pn ++ pins) hz4 ⟨_, hd4⟩).run [] s5 _ H' _ S5 (hyes rfl a na)) (fun f s6 hsp => ?_) (fun _ _ z => False.elim z)
          have end_ : ∀ {σ6 : L2.St} {H6 : Hp} {Q : Shared → Prop}, L2.Inv (X.suite a ((a, oe4) :: (X.pn ++ pins))) [] σ6 H6 s6 → (∀ s7, L2.Inv X pins (σ6.set i none) H6 s7 → Q s7) →
              wpAny (model X.prog X.w) X.A (do bindName X.env n .none; unbindBehindTheSuite X.env n pos') (fun _ s7 => Q s7) X.xe s6 := fun {σ6 H6 Q} S6 hq => gone_ok (S6.unsuite ok) hN hi hln hq
          match f, hsp with
          | .next, ⟨σ6, H6, S6, q6⟩ => exact end_ S6 fun s7 J7 => ⟨_, _, J7, q6⟩
          | .brk, ⟨σ6, H6, S6, q6⟩ => exact end_ S6 fun s7 J7 => ⟨_, _, J7, q6⟩
          | .cont, ⟨σ6, H6, S6, q6⟩ => exact end_ S6 fun s7 J7 => ⟨_, _, J7, q6⟩
          | .ret u, ⟨v6, σ6, H6, S6, r6, q6⟩ => exact end_ S6 fun s7 J7 => ⟨_, _, _, J7, r6, q6⟩
        | false =>
          show wpAny _ X.A (handleBy (.ref a) X.env hds2) _ _ _
          exact ih h3 fl3 up3 (hno rfl)
      | @cons2 x1 x2 n c1 c2 i ts b₀ suite np1 np2 tpos pos' kk hds2 l2 hc1 hc2 hi hln hsu r ih =>
        intro h30 fl30 up30
        obtain ⟨oe3, vs3, he3, hz3, hd3⟩ := fl30.there
        have J3 : L2.Inv X pins σ' H' { s' with heap := h30 } := J.landed nb fl30.1 (up.trans up30) os ag
        have S3 := J3.suite he3 hd3 na nL nF
        rintro ⟨b, hb1, hyes, hno⟩
        refine wpAny_handleBy_cons (codeAny_handlers_test ?_) (by intro q; cases q)
        have test : ∀ {x : Str} {c : Value} {np : Pos} {Q : Value → Shared → Prop} {E : Value → Shared → Prop}, Names X x c → Q c { s' with heap := h30 } → wpAny (model X.prog X.w) (X.A.mark (some (.ref a))) (eval (.Name x np) X.env) Q E { s' with heap := h30 } := by
          intro x c np Q E hc q
          obtain ⟨hg, hdbg, hm | ⟨hm, hv, hnn⟩⟩ := hc
          · exact ld_glob (X := X.suite a ((a, oe3) :: (X.pn ++ pins))) S3 hg hm q hdbg
          · exact ld_blt (X := X.suite a ((a, oe3) :: (X.pn ++ pins))) S3 hg hm hv q hnn hdbg
        refine Tuple_ (spliced_more (test hc1 (spliced_more (test hc2 (spliced_none (wpAny_newTuple ?_ (show (2 : Nat) ≤ sizeLine by rw [sizeLine_eq]; decide)))))))
        have fl3 := flyingZ_push fl30 { cls := .type "tuple", data := .seq [c1, c2].toArray }
        have up3 := up30.trans (Heap.UpToSlots.of_keeps (h' := h30.push { cls := .type "tuple", data := .seq [c1, c2].toArray }) fun b o e => Heap.get?_push_of_some _ e)
        have hp : (h30.push { cls := .type "tuple", data := .seq [c1, c2].toArray }).get? h30.objs.size = some { cls := .type "tuple", data := .seq [c1, c2].toArray } := Heap.get?_push_size _ rfl
        have he3' : (h30.push { cls := .type "tuple", data := .seq [c1, c2].toArray }).get? a = some oe3 := Heap.get?_push_of_some _ he3
        generalize h30.push { cls := .type "tuple", data := .seq [c1, c2].toArray } = h3 at fl3 up3 hp he3' ⊢
        have J3' : L2.Inv X pins σ' H' { s' with heap := h3 } := J.landed nb fl3.1 (up.trans up3) os ag
        have LT : PySem.W.Looks (model X.prog X.w) h3 (typeOf (.ref a)) cls := fun A Q E s k q => wpAny_typeOf_ref (k _ _ he3') (by rw [hz3.1]; exact q)
        have LM := PySem.W.exm_tup2 (M := model X.prog X.w) (J3'.kIn) LT hp hb1
        refine LM.here ?_
        cases b with
        | true =>
          refine codeAny_handlers_suite_as (HandSPX.lands_againZ fl3 fun h4 fl4 up4 => ?_)
          have J4 : L2.Inv X pins σ' H' { s' with heap := h4 } := J.landed nb fl4.1 ((up.trans up3).trans up4) os ag
          obtain ⟨oe4, vs4, he4, hz4, hd4⟩ := fl4.there
          have S4 := J4.suite he4 hd4 na nL nF
          refine store_ok (X := X.suite a ((a, oe4) :: (X.pn ++ pins))) (v := .ref a) S4 hN hi (.inl hln) rfl (fun s5 S5 => ?_) (.inr hln)
          refine wpAny_mono ((hsu a oe4 cls d (X.pn ++ pins) hz4 ⟨_, hd4⟩).run [] s5 _ H' _ S5 (hyes rfl a na)) (fun f s6 hsp => ?_) (fun _ _ z => False.elim z)
          have end_ : ∀ {σ6 : L2.St} {H6 : Hp} {Q : Shared → Prop}, L2.Inv (X.suite a ((a, oe4) :: (X.pn ++ pins))) [] σ6 H6 s6 → (∀ s7, L2.Inv X pins (σ6.set i none) H6 s7 → Q s7) →
              wpAny (model X.prog X.w) X.A (do bindName X.env n .none; unbindBehindTheSuite X.env n pos') (fun _ s7 => Q s7) X.xe s6 := fun {σ6 H6 Q} S6 hq => gone_ok (S6.unsuite ok) hN hi hln hq
          match f, hsp with
          | .next, ⟨σ6, H6, S6, q6⟩ => exact end_ S6 fun s7 J7 => ⟨_, _, J7, q6⟩
          | .brk, ⟨σ6, H6, S6, q6⟩ => exact end_ S6 fun s7 J7 => ⟨_, _, J7, q6⟩
          | .cont, ⟨σ6, H6, S6, q6⟩ => exact end_ S6 fun s7 J7 => ⟨_, _, J7, q6⟩
          | .ret u, ⟨v6, σ6, H6, S6, r6, q6⟩ => exact end_ S6 fun s7 J7 => ⟨_, _, _, J7, r6, q6⟩
        | false =>
          show wpAny _ X.A (handleBy (.ref a) X.env hds2) _ _ _
          exact ih h3 fl3 up3 (hno rfl)
      | @cons3 x1 x2 x3 n c1 c2 c3 i ts b₀ suite np1 np2 np3 tpos pos' kk hds2 l2 hc1 hc2 hc3 hi hln hsu r ih =>
        intro h30 fl30 up30
        obtain ⟨oe3, vs3, he3, hz3, hd3⟩ := fl30.there
        have J3 : L2.Inv X pins σ' H' { s' with heap := h30 } := J.landed nb fl30.1 (up.trans up30) os ag
        have S3 := J3.suite he3 hd3 na nL nF
        rintro ⟨b, hb1, hyes, hno⟩
        refine wpAny_handleBy_cons (codeAny_handlers_test ?_) (by intro q; cases q)
        have test : ∀ {x : Str} {c : Value} {np : Pos} {Q : Value → Shared → Prop} {E : Value → Shared → Prop}, Names X x c → Q c { s' with heap := h30 } → wpAny (model X.prog X.w) (X.A.mark (some (.ref a))) (eval (.Name x np) X.env) Q E { s' with heap := h30 } := by
          intro x c np Q E hc q
          obtain ⟨hg, hdbg, hm | ⟨hm, hv, hnn⟩⟩ := hc
          · exact ld_glob (X := X.suite a ((a, oe3) :: (X.pn ++ pins))) S3 hg hm q hdbg
          · exact ld_blt (X := X.suite a ((a, oe3) :: (X.pn ++ pins))) S3 hg hm hv q hnn hdbg
        refine Tuple_ (spliced_more (test hc1 (spliced_more (test hc2 (spliced_more (test hc3 (spliced_none (wpAny_newTuple ?_ (show (3 : Nat) ≤ sizeLine by rw [sizeLine_eq]; decide)))))))))
        have fl3 := flyingZ_push fl30 { cls := .type "tuple", data := .seq [c1, c2, c3].toArray }
        have up3 := up30.trans (Heap.UpToSlots.of_keeps (h' := h30.push { cls := .type "tuple", data := .seq [c1, c2, c3].toArray }) fun b o e => Heap.get?_push_of_some _ e)
        have hp : (h30.push { cls := .type "tuple", data := .seq [c1, c2, c3].toArray }).get? h30.objs.size = some { cls := .type "tuple", data := .seq [c1, c2, c3].toArray } := Heap.get?_push_size _ rfl
        have he3' : (h30.push { cls := .type "tuple", data := .seq [c1, c2, c3].toArray }).get? a = some oe3 := Heap.get?_push_of_some _ he3
        generalize h30.push { cls := .type "tuple", data := .seq [c1, c2, c3].toArray } = h3 at fl3 up3 hp he3' ⊢
        have J3' : L2.Inv X pins σ' H' { s' with heap := h3 } := J.landed nb fl3.1 (up.trans up3) os ag
        have LT : PySem.W.Looks (model X.prog X.w) h3 (typeOf (.ref a)) cls := fun A Q E s k q => wpAny_typeOf_ref (k _ _ he3') (by rw [hz3.1]; exact q)
        have LM := PySem.W.exm_tup3 (M := model X.prog X.w) (J3'.kIn) LT hp hb1
        refine LM.here ?_
        cases b with
        | true =>
          refine codeAny_handlers_suite_as (HandSPX.lands_againZ fl3 fun h4 fl4 up4 => ?_)
          have J4 : L2.Inv X pins σ' H' { s' with heap := h4 } := J.landed nb fl4.1 ((up.trans up3).trans up4) os ag
          obtain ⟨oe4, vs4, he4, hz4, hd4⟩ := fl4.there
          have S4 := J4.suite he4 hd4 na nL nF
          refine store_ok (X := X.suite a ((a, oe4) :: (X.pn ++ pins))) (v := .ref a) S4 hN hi (.inl hln) rfl (fun s5 S5 => ?_) (.inr hln)
          refine wpAny_mono ((hsu a oe4 cls d (X.pn ++ pins) hz4 ⟨_, hd4⟩).run [] s5 _ H' _ S5 (hyes rfl a na)) (fun f s6 hsp => ?_) (fun _ _ z => False.elim z)
          have end_ : ∀ {σ6 : L2.St} {H6 : Hp} {Q : Shared → Prop}, L2.Inv (X.suite a ((a, oe4) :: (X.pn ++ pins))) [] σ6 H6 s6 → (∀ s7, L2.Inv X pins (σ6.set i none) H6 s7 → Q s7) →
              wpAny (model X.prog X.w) X.A (do bindName X.env n .none; unbindBehindTheSuite X.env n pos') (fun _ s7 => Q s7) X.xe s6 := fun {σ6 H6 Q} S6 hq => gone_ok (S6.unsuite ok) hN hi hln hq
          match f, hsp with
          | .next, ⟨σ6, H6, S6, q6⟩ => exact end_ S6 fun s7 J7 => ⟨_, _, J7, q6⟩
          | .brk, ⟨σ6, H6, S6, q6⟩ => exact end_ S6 fun s7 J7 => ⟨_, _, J7, q6⟩
          | .cont, ⟨σ6, H6, S6, q6⟩ => exact end_ S6 fun s7 J7 => ⟨_, _, J7, q6⟩
          | .ret u, ⟨v6, σ6, H6, S6, r6, q6⟩ => exact end_ S6 fun s7 J7 => ⟨_, _, _, J7, r6, q6⟩
        | false =>
          show wpAny _ X.A (handleBy (.ref a) X.env hds2) _ _ _
          exact ih h3 fl3 up3 (hno rfl)
      | @cons4 x1 x2 x3 x4 n c1 c2 c3 c4 i ts b₀ suite np1 np2 np3 np4 tpos pos' kk hds2 l2 hc1 hc2 hc3 hc4 hi hln hsu r ih =>
        intro h30 fl30 up30
        obtain ⟨oe3, vs3, he3, hz3, hd3⟩ := fl30.there
        have J3 : L2.Inv X pins σ' H' { s' with heap := h30 } := J.landed nb fl30.1 (up.trans up30) os ag
        have S3 := J3.suite he3 hd3 na nL nF
        rintro ⟨b, hb1, hyes, hno⟩
        refine wpAny_handleBy_cons (codeAny_handlers_test ?_) (by intro q; cases q)
        have test : ∀ {x : Str} {c : Value} {np : Pos} {Q : Value → Shared → Prop} {E : Value → Shared → Prop}, Names X x c → Q c { s' with heap := h30 } → wpAny (model X.prog X.w) (X.A.mark (some (.ref a))) (eval (.Name x np) X.env) Q E { s' with heap := h30 } := by
          intro x c np Q E hc q
          obtain ⟨hg, hdbg, hm | ⟨hm, hv, hnn⟩⟩ := hc
          · exact ld_glob (X := X.suite a ((a, oe3) :: (X.pn ++ pins))) S3 hg hm q hdbg
          · exact ld_blt (X := X.suite a ((a, oe3) :: (X.pn ++ pins))) S3 hg hm hv q hnn hdbg
        refine Tuple_ (spliced_more (test hc1 (spliced_more (test hc2 (spliced_more (test hc3 (spliced_more (test hc4 (spliced_none (wpAny_newTuple ?_ (show (4 : Nat) ≤ sizeLine by rw [sizeLine_eq]; decide)))))))))))
        have fl3 := flyingZ_push fl30 { cls := .type "tuple", data := .seq [c1, c2, c3, c4].toArray }
        have up3 := up30.trans (Heap.UpToSlots.of_keeps (h' := h30.push { cls := .type "tuple", data := .seq [c1, c2, c3, c4].toArray }) fun b o e => Heap.get?_push_of_some _ e)
        have hp : (h30.push { cls := .type "tuple", data := .seq [c1, c2, c3, c4].toArray }).get? h30.objs.size = some { cls := .type "tuple", data := .seq [c1, c2, c3, c4].toArray } := Heap.get?_push_size _ rfl
        have he3' : (h30.push { cls := .type "tuple", data := .seq [c1, c2, c3, c4].toArray }).get? a = some oe3 := Heap.get?_push_of_some _ he3
        generalize h30.push { cls := .type "tuple", data := .seq [c1, c2, c3, c4].toArray } = h3 at fl3 up3 hp he3' ⊢
        have J3' : L2.Inv X pins σ' H' { s' with heap := h3 } := J.landed nb fl3.1 (up.trans up3) os ag
        have LT : PySem.W.Looks (model X.prog X.w) h3 (typeOf (.ref a)) cls := fun A Q E s k q => wpAny_typeOf_ref (k _ _ he3') (by rw [hz3.1]; exact q)
        have LM := PySem.W.exm_tup4 (M := model X.prog X.w) (J3'.kIn) LT hp hb1
        refine LM.here ?_
        cases b with
        | true =>
          refine codeAny_handlers_suite_as (HandSPX.lands_againZ fl3 fun h4 fl4 up4 => ?_)
          have J4 : L2.Inv X pins σ' H' { s' with heap := h4 } := J.landed nb fl4.1 ((up.trans up3).trans up4) os ag
          obtain ⟨oe4, vs4, he4, hz4, hd4⟩ := fl4.there
          have S4 := J4.suite he4 hd4 na nL nF
          refine store_ok (X := X.suite a ((a, oe4) :: (X.pn ++ pins))) (v := .ref a) S4 hN hi (.inl hln) rfl (fun s5 S5 => ?_) (.inr hln)
          refine wpAny_mono ((hsu a oe4 cls d (X.pn ++ pins) hz4 ⟨_, hd4⟩).run [] s5 _ H' _ S5 (hyes rfl a na)) (fun f s6 hsp => ?_) (fun _ _ z => False.elim z)
          have end_ : ∀ {σ6 : L2.St} {H6 : Hp} {Q : Shared → Prop}, L2.Inv (X.suite a ((a, oe4) :: (X.pn ++ pins))) [] σ6 H6 s6 → (∀ s7, L2.Inv X pins (σ6.set i none) H6 s7 → Q s7) →
              wpAny (model X.prog X.w) X.A (do bindName X.env n .none; unbindBehindTheSuite X.env n pos') (fun _ s7 => Q s7) X.xe s6 := fun {σ6 H6 Q} S6 hq => gone_ok (S6.unsuite ok) hN hi hln hq
          match f, hsp with
          | .next, ⟨σ6, H6, S6, q6⟩ => exact end_ S6 fun s7 J7 => ⟨_, _, J7, q6⟩
          | .brk, ⟨σ6, H6, S6, q6⟩ => exact end_ S6 fun s7 J7 => ⟨_, _, J7, q6⟩
          | .cont, ⟨σ6, H6, S6, q6⟩ => exact end_ S6 fun s7 J7 => ⟨_, _, J7, q6⟩
          | .ret u, ⟨v6, σ6, H6, S6, r6, q6⟩ => exact end_ S6 fun s7 J7 => ⟨_, _, _, J7, r6, q6⟩
        | false =>
          show wpAny _ X.A (handleBy (.ref a) X.env hds2) _ _ _
          exact ih h3 fl3 up3 (hno rfl)
      | @cons6 x1 x2 x3 x4 x5 x6 n c1 c2 c3 c4 c5 c6 i ts b₀ suite np1 np2 np3 np4 np5 np6 tpos pos' kk hds2 l2 hc1 hc2 hc3 hc4 hc5 hc6 hi hln hsu r ih =>
        intro h30 fl30 up30
        obtain ⟨oe3, vs3, he3, hz3, hd3⟩ := fl30.there
        have J3 : L2.Inv X pins σ' H' { s' with heap := h30 } := J.landed nb fl30.1 (up.trans up30) os ag
        have S3 := J3.suite he3 hd3 na nL nF
        rintro ⟨b, hb1, hyes, hno⟩
        refine wpAny_handleBy_cons (codeAny_handlers_test ?_) (by intro q; cases q)
        have test : ∀ {x : Str} {c : Value} {np : Pos} {Q : Value → Shared → Prop} {E : Value → Shared → Prop}, Names X x c → Q c { s' with heap := h30 } → wpAny (model X.prog X.w) (X.A.mark (some (.ref a))) (eval (.Name x np) X.env) Q E { s' with heap := h30 } := by
          intro x c np Q E hc q
          obtain ⟨hg, hdbg, hm | ⟨hm, hv, hnn⟩⟩ := hc
          · exact ld_glob (X := X.suite a ((a, oe3) :: (X.pn ++ pins))) S3 hg hm q hdbg
          · exact ld_blt (X := X.suite a ((a, oe3) :: (X.pn ++ pins))) S3 hg hm hv q hnn hdbg
        refine Tuple_ (spliced_more (test hc1 (spliced_more (test hc2 (spliced_more (test hc3 (spliced_more (test hc4 (spliced_more (test hc5 (spliced_more (test hc6 (spliced_none (wpAny_newTuple ?_ (show (6 : Nat) ≤ sizeLine by rw [sizeLine_eq]; decide)))))))))))))))
        have fl3 := flyingZ_push fl30 { cls := .type "tuple", data := .seq [c1, c2, c3, c4, c5, c6].toArray }
        have up3 := up30.trans (Heap.UpToSlots.of_keeps (h' := h30.push { cls := .type "tuple", data := .seq [c1, c2, c3, c4, c5, c6].toArray }) fun b o e => Heap.get?_push_of_some _ e)
        have hp : (h30.push { cls := .type "tuple", data := .seq [c1, c2, c3, c4, c5, c6].toArray }).get? h30.objs.size = some { cls := .type "tuple", data := .seq [c1, c2, c3, c4, c5, c6].toArray } := Heap.get?_push_size _ rfl
        have he3' : (h30.push { cls := .type "tuple", data := .seq [c1, c2, c3, c4, c5, c6].toArray }).get? a = some oe3 := Heap.get?_push_of_some _ he3
        generalize h30.push { cls := .type "tuple", data := .seq [c1, c2, c3, c4, c5, c6].toArray } = h3 at fl3 up3 hp he3' ⊢
        have J3' : L2.Inv X pins σ' H' { s' with heap := h3 } := J.landed nb fl3.1 (up.trans up3) os ag
        have LT : PySem.W.Looks (model X.prog X.w) h3 (typeOf (.ref a)) cls := fun A Q E s k q => wpAny_typeOf_ref (k _ _ he3') (by rw [hz3.1]; exact q)
        have LM := exm_tup6 (M := model X.prog X.w) (J3'.kIn) LT hp hb1
        refine LM.here ?_
        cases b with
        | true =>
          refine codeAny_handlers_suite_as (HandSPX.lands_againZ fl3 fun h4 fl4 up4 => ?_)
          have J4 : L2.Inv X pins σ' H' { s' with heap := h4 } := J.landed nb fl4.1 ((up.trans up3).trans up4) os ag
          obtain ⟨oe4, vs4, he4, hz4, hd4⟩ := fl4.there
          have S4 := J4.suite he4 hd4 na nL nF
          refine store_ok (X := X.suite a ((a, oe4) :: (X.pn ++ pins))) (v := .ref a) S4 hN hi (.inl hln) rfl (fun s5 S5 => ?_) (.inr hln)
          refine wpAny_mono ((hsu a oe4 cls d (X.pn ++ pins) hz4 ⟨_, hd4⟩).run [] s5 _ H' _ S5 (hyes rfl a na)) (fun f s6 hsp => ?_) (fun _ _ z => False.elim z)
          have end_ : ∀ {σ6 : L2.St} {H6 : Hp} {Q : Shared → Prop}, L2.Inv (X.suite a ((a, oe4) :: (X.pn ++ pins))) [] σ6 H6 s6 → (∀ s7, L2.Inv X pins (σ6.set i none) H6 s7 → Q s7) →
              wpAny (model X.prog X.w) X.A (do bindName X.env n .none; unbindBehindTheSuite X.env n pos') (fun _ s7 => Q s7) X.xe s6 := fun {σ6 H6 Q} S6 hq => gone_ok (S6.unsuite ok) hN hi hln hq
          match f, hsp with
          | .next, ⟨σ6, H6, S6, q6⟩ => exact end_ S6 fun s7 J7 => ⟨_, _, J7, q6⟩
          | .brk, ⟨σ6, H6, S6, q6⟩ => exact end_ S6 fun s7 J7 => ⟨_, _, J7, q6⟩
          | .cont, ⟨σ6, H6, S6, q6⟩ => exact end_ S6 fun s7 J7 => ⟨_, _, J7, q6⟩
          | .ret u, ⟨v6, σ6, H6, S6, r6, q6⟩ => exact end_ S6 fun s7 J7 => ⟨_, _, _, J7, r6, q6⟩
        | false =>
          show wpAny _ X.A (handleBy (.ref a) X.env hds2) _ _ _
          exact ih h3 fl3 up3 (hno rfl)
    exact go hh _ fl3 up3 w
  · match f, hsp with
    | .next, ⟨σ', H', J', q⟩ => exact wpAny_execs_nil ⟨σ', H', J'.ofTry ok, q⟩
    | .brk, ⟨σ', H', J', q⟩ => exact ⟨σ', H', J'.ofTry ok, q⟩
    | .cont, ⟨σ', H', J', q⟩ => exact ⟨σ', H', J'.ofTry ok, q⟩
    | .ret u, ⟨v, σ', H', J', r, q⟩ => exact ⟨v, σ', H', J'.ofTry ok, r, q⟩
end
end Ah

/-! defs with keyword-only defaults, called by their positional values alone -/
namespace Ah
open PySem PySem.Spec PyProof.Rows L2 He
/-- the promise of a def whose last parameters are keyword-only and have the values zs -/
def spD (n : Nat) (zs : List V) (sp : Sp) : Sp := fun vs H Q E => vs.length = n ∧ sp (vs ++ zs) H Q E
theorem okBD {P : Program} {w : World} {K : Frag} {mg : Str → Option Value} {base : Heap} {N ps : List Str} {n k : Nat} {sp : Sp} {d : DefG} (ms : List (Str × V)) (S : Stands K d) (h0 : d.dfl = []) (hkw : d.kws K = ms) (hne : ms ≠ []) (sc : FnScope N ps d.scope) (hps : ps.length = n + ms.length)
    (hb : ∀ (D : Addr) (doc pm : Value) (an : Option Addr) (cdv ct : Value) (us mv : List Value), us.length = n → mv.length = ms.length →
      KwChain D ((ms.map (·.1)).zip mv) (bindArgs (PySem.W.fnOf d.name d.qual d.params d.body d.scope .none (.ref D) doc pm an cdv ct) ⟨us, []⟩) (ps.zip (us ++ (mv ++ []))))
    (hbody : BodyB (L2.CX P w) P w K mg base N d k sp) : FnB P w K mg base (k + 1) (d.ad K) (spD n (ms.map (·.2)) sp) := by
  obtain ⟨fd, F⟩ := S
  have e : d.dvs K = [] := by unfold DefG.dvs; rw [h0]; rfl
  rw [e, hkw] at F
  obtain ⟨mv, hk⟩ := F.kbinds0 (ps := ps) n [] ms (fun us mv ws => us ++ (mv ++ ws)) hne (fun _ h => h) (fun r1 r2 r3 => r1.append (r2.append r3)) (fun D doc pm an cdv ct us mv ws l1 l2 l3 => by
    have e : ws = [] := List.eq_nil_of_length_eq_zero l3
    subst e
    exact hb D doc pm an cdv ct us mv l1 l2)
  refine ⟨fun A outer s H us vs Q E hr e0 r hsp => ?_, F.kp⟩
  obtain ⟨hl, hsp⟩ := hsp
  have l1 : us.length = n := r.length.symm.trans hl
  have KX : K.In s.heap := e0.mod.kin.keeps fun b o e => (e0.bs b o e).1
  have b := hk.to s us [] KX l1 rfl
  have rr := hk.rel (zs := []) (ws := []) r .nil
  have ee : vs ++ (ms.map (·.2) ++ []) = vs ++ ms.map (·.2) := by rw [List.append_nil]
  have rr2 : Vals (vs ++ ms.map (·.2)) (us ++ (mv ++ [])) := by
    rw [← ee]
    exact rr
  exact body_run F sc hbody hr e0 b (by rw [List.length_append, List.length_map, hl, hps]) rr2 hsp
/-- a comprehension over a list: what each item gives stands in tuples (P stays where tuples stay) -/
theorem lc_each {K : Frag} {P : Hp → V → V → Prop} {tl te : TE} {g : TG} {vs : List Nat} {σ : L2.St} {H : Hp} {Rl : Hp → List V → Prop} {Q : VK} (hP : ∀ G G' x u, P G x u → Tk G G' → P G' x u)
    (hl : ∀ Q' : VK, (∀ H1 L xs, H1 L = some (.lst xs) → xs.length ≤ 10000 → Rl H1 xs → Q' (.ref L) H1) → tl σ H Q') (he : ∀ H1 xs, Rl H1 xs → ∀ x ∈ xs, ∀ (G : Hp) (Q' : VK), Same H1 G → (∀ G' u, Same G G' → P G' x u → Q' u G') → g x (wipe σ vs) G fun σ2 H2 => wipe σ2 vs = wipe σ vs ∧ te σ2 H2 Q')
    (q : ∀ H1 xs G D us, Rl H1 xs → Same H1 G → H1 D = none → G D = some (.lst us) → Paired (P G) xs us → Q (.ref D) G) : tLc (iList K tl) g tYes te vs σ H Q := by
  refine hl _ fun H L xs hL few hR => ⟨L, rfl, ⟨_, SqL.of hL⟩, fun D hD => ?_⟩
  refine lc_it (walk_list (xs := xs)) (fun j H2 => ∃ us, H2 D = some (.lst us) ∧ us.length = j ∧ Paired (P H2) (xs.take j) us ∧ Same H H2) ?_ (fun j H2 _ ⟨_, _, _, _, s⟩ => SqL.of (s _ _ hL)) ?_ ?_
  · exact ⟨[], upd_same, rfl, .nil, Same.upd (Same.refl _) hD⟩
  · rintro j y H2 H3 hj ⟨us, hb, hlen, hpr, s⟩ ⟨rfl, hy⟩
    obtain ⟨hjl, ey⟩ := List.getElem?_eq_some_iff.mp hy
    have hm : y ∈ xs := ey ▸ List.getElem_mem hjl
    refine he H xs hR y hm H3 _ s fun G' u s' hp => ?_
    refine ⟨us, s' _ _ hb, by rw [hlen, sizeLine_eq]; omega, us ++ [u], upd_same, by rw [List.length_append, hlen]; rfl, ?_, fun b o hbo => ?_⟩
    · have t2 : Tk G' (upd G' D (.lst (us ++ [u]))) := Tk.upd (s' _ _ hb) (fun xs z => by cases z)
      have t1 : Tk H3 (upd G' D (.lst (us ++ [u]))) := (Tk.same s').trans t2
      rw [List.take_add_one, hy]
      exact Paired.snoc (L2.Paired.mapP hpr fun a b h => hP _ _ _ _ h t1) (hP _ _ _ _ hp t2)
    · rw [upd_ne (ne_of_none hbo hD)]
      exact (s.trans s') _ _ hbo
  · rintro H2 ⟨us, hb, hlen, hpr, s⟩
    rw [List.take_length] at hpr
    exact q H xs H2 D us hR s hD hb hpr
end Ah

/-! generator defs, and list(g) of them -/
namespace Ah
open PySem PySem.Spec PyProof.Rows L2 He
/-- the generator def at f keeps sp; zs: its keyword-only defaults -/
structure GnD (P : Program) (w : World) (K : Frag) (mg : Str → Option Value) (base : Heap) (k : Nat) (f : Addr) (zs : List V) (sp : SpG) : Prop where
  ex : ∃ fd ps ds, GFn P w K mg base k f fd ps sp ∧ Binds K fd ps ds ∧ Vals zs ds
  kp : PySem.W.keepIn K (.ref f) = true
theorem okGD {P : Program} {w : World} {K : Frag} {mg : Str → Option Value} {base : Heap} {N ps : List Str} {n k : Nat} {sp : SpG} {d : DefG} (ms : List (Str × V)) (S : Stands K d) (h0 : d.dfl = []) (hkw : d.kws K = ms) (hne : ms ≠ []) (sc : GScope N ps d.scope) (hps : ps.length = n + ms.length)
    (len : ∀ vs H Q E, sp vs H Q E → vs.length = ps.length)
    (hb : ∀ (D : Addr) (doc pm : Value) (an : Option Addr) (cdv ct : Value) (us mv : List Value), us.length = n → mv.length = ms.length →
      KwChain D ((ms.map (·.1)).zip mv) (bindArgs (PySem.W.fnOf d.name d.qual d.params d.body d.scope .none (.ref D) doc pm an cdv ct) ⟨us, []⟩) (ps.zip (us ++ (mv ++ []))))
    (hbody : ∀ (cdv : Value) (A : Around) (outer : List Env) (s : Shared) (H : Hp) (vs : List V) (Q : List V → Hp → Prop) (E : XK) (pn : List (Addr × Obj)), Room k (A.deeper (envOfC d.qual d.scope s.heap.objs.size (d.ad K) cdv)) → sp vs H Q E →
      ∃ t, GSs (gcxOf P w K mg base N d.qual d.scope (d.ad K) cdv A outer s H E pn) d.body t ∧ t { nx := fun ys _ H' => Q ys H', rt := fun ys v H' => v = .non ∧ Q ys H' } [] (L2.start N vs) H) : GnD P w K mg base (k + 1) (d.ad K) (ms.map (·.2)) sp := by
  obtain ⟨fd, F⟩ := S
  have e : d.dvs K = [] := by unfold DefG.dvs; rw [h0]; rfl
  rw [e, hkw] at F
  obtain ⟨mv, hk⟩ := F.kbinds0 (ps := ps) n [] ms (fun us mv ws => us ++ (mv ++ ws)) hne (fun _ h => h) (fun r1 r2 r3 => r1.append (r2.append r3)) (fun D doc pm an cdv ct us mv ws l1 l2 l3 => by
    have e : ws = [] := List.eq_nil_of_length_eq_zero l3
    subst e
    exact hb D doc pm an cdv ct us mv l1 l2)
  have rz : Vals (ms.map (·.2) ++ []) (mv ++ []) := by
    have h := hk.rel (vs := []) (us := []) (zs := []) (ws := []) .nil .nil
    exact h
  have lz : (mv ++ []).length = ms.length := by
    rw [← rz.length, List.append_nil, List.length_map]
  obtain ⟨oc, od, dV, kV, doc, pm, an, cdv, ct, osl, rfl, lk, hcd, _, _⟩ := id F.ex
  refine ⟨⟨_, ps, mv ++ [], gfn_of lk hcd sc len (hbody cdv), fun s us X hl => ?_, by rw [← List.append_nil (ms.map (·.2))]; exact rz⟩, F.kp⟩
  have l1 : us.length = n := by
    rw [List.length_append, lz, hps] at hl
    omega
  exact hk.to s us [] X l1 rfl
section
variable {X : Cx} {k j : Nat} {f : Addr} {sp : SpG} {zs : List V} {x : Str} {p pos : Pos}
theorem pgenD {E : XK} {e : Expr} {es : List Expr} {t : TA} (G : GnD X.prog X.w X.K X.mg X.base k f zs sp) (hr : Rm j X.A) (hm : X.mg x = some (.ref f)) (ha : PA X (e :: es) t) (hk : k ≤ j := by decide) (hg : Gl X x := by rfl)
    (hdb : (x == ("__debug__" : Str)) = false := by decide) (he : starEach (e :: es) X.env = (false, eval e X.env) :: starEach es X.env := by rfl) (hpl : (backTo pos (starEach es X.env)).any (·.1) = false := by rfl) :
    PGen X k (.Call (.Name x p) (e :: es) [] pos) (tCallG sp zs E t) E := by
  obtain ⟨⟨fd, ps, ds, F, b, r⟩, kp⟩ := G
  exact pgen_call F (hr.r.mono hk) hg hm kp b r ha hdb he hpl
end
section
variable {X : Cx} {j k : Nat} {C : Str} {sp : Sp} {W : WX} {e : Expr} {es : List Expr} {ta : TA} {p pos pos2 : Pos}
/-- raise C(e), where no guards are known -/
theorem ps_raiseR (hc : X.calm = true) (tk : Takes X W) (T : ExcT X.K X.mg C) (F : FnU X.prog X.w X.K X.mg X.base k (ma X.K (ga X.K C) "__init__") sp) (hr : Room j X.A) (ha : PA X (e :: es) ta) (hk : k + 1 ≤ j := by decide) (hg : Gl X C := by rfl)
    (hdb : (C == ("__debug__" : Str)) = false := by decide) (he : starEach (e :: es) X.env = (false, eval e X.env) :: starEach es X.env := by rfl) (hpl : (backTo pos (starEach es X.env)).any (·.1) = false := by rfl) :
    PS X (.Raise (some (.Call (.Name C p) (e :: es) [] pos)) none pos2) (fun _ σ H => tMkO (ga X.K C) sp [] ta σ H fun cls d H' => W cls d σ H') := by
  obtain ⟨⟨fd, ps, G, b⟩⟩ := F
  exact ps_raise hc tk (pmkG T.o T.i T.t G (hr.mono hk) b passL hg T.g ha hdb he hpl)
end
/-- only C goes out -/
def onlyX (K : Frag) (C : Str) (E : XK) : XK := fun cls d H => cls = .ref (ga K C) ∧ E cls d H
theorem Out1.only {K : Frag} {E : XK} {H : Hp} {C f : Str} {v : V} (o : Out1 K E H C f v) : Out1 K (onlyX K C E) H C f v := fun H' d s h => ⟨rfl, o H' d s h⟩
theorem onlyX_noStop {K : Frag} {C : Str} {E : XK} (h : PySem.W.subIn K (.ref (ga K C)) (.type "StopIteration") = some false) : NoStop K (onlyX K C E) := fun cls d H z => by
  rw [z.1]
  exact h
end Ah

/-! repr of a dict of scalars and lists of scalars -/
namespace Ah
open PySem PySem.Spec PyProof.Rows L2 He
/-- a scalar, as data -/
inductive Sc : V → PyData → Prop
  | int (i : Int) : Sc (.int i) (.int i)
  | str (z : Str) : Sc (.str z) (.str z)
  | bl (b : Bool) : Sc (.bl b) (.bool b)
  | non : Sc .non .none
/-- a scalar, or a list of scalars -/
inductive Sv (H : Hp) : V → PyData → Prop
  | sc {v : V} {d : PyData} (h : Sc v d) : Sv H v d
  | lst {a : Addr} {vs : List V} {ds : List PyData} (e : H a = some (.lst vs)) (na : a ≠ sysModules) (p : Paired Sc vs ds) : Sv H (.ref a) (.list ds)
theorem Sc.reads {h : Heap} {v : V} {d : PyData} {u : Value} (x : Sc v d) (r : RelV v u) : Reads h u d [] := by
  cases x with
  | int i =>
    obtain ⟨t, rfl⟩ := r
    exact Reads.int i t
  | str z =>
    obtain ⟨t, rfl⟩ := r
    exact Reads.str z t
  | bl b =>
    cases r
    exact Reads.bool b
  | non =>
    cases r
    exact Reads.none
theorem scs_reads {h : Heap} : ∀ {vs : List V} {ds : List PyData} {us : List Value}, Paired Sc vs ds → Vals vs us → ReadsAll h us ds []
  | _, _, _, .nil, .nil => .nil
  | _, _, _, .cons x t, .cons r rr => ReadsAll.cons (as := []) (bs := []) (x.reads r) (scs_reads t rr)
section
variable {X : Cx} {pins : List (Addr × Obj)} {σ : L2.St} {H : Hp} {s : Shared}
theorem sv_reads (I : L2.Inv X pins σ H s) {v : V} {d : PyData} {u : Value} (h : Sv H v d) (r : RelV v u) : ∃ as, Reads s.heap u d as ∧ sysModules ∉ as := by
  cases h with
  | sc h => exact ⟨[], h.reads r, by simp⟩
  | @lst a vs ds e na p =>
    cases (show u = Value.ref a from r)
    obtain ⟨_, its, n, rr, he⟩ := I.hok a _ e
    exact ⟨a :: [], Reads.list he rfl rfl (scs_reads p (by simpa using rr)), by simpa using na.symm⟩
theorem svs_reads (I : L2.Inv X pins σ H s) : ∀ {vs : List V} {ds : List PyData} {us : List Value}, Paired (Sv H) vs ds → Vals vs us → ∃ as, ReadsAll s.heap us ds as ∧ sysModules ∉ as
  | _, _, _, .nil, .nil => ⟨[], .nil, by simp⟩
  | _, _, _, .cons x t, .cons r rr => by
    obtain ⟨as, q1, n1⟩ := sv_reads I x r
    obtain ⟨bs, q2, n2⟩ := svs_reads I t rr
    exact ⟨_, ReadsAll.cons q1 q2, fun z => (List.mem_append.mp z).elim n1 n2⟩
/-- the entries of a dict of text keys, read -/
theorem entries_reads {P : Program} {w : World} (I : L2.Inv X pins σ H s) : ∀ {kvs : List (Str × V)} {ds : List PyData} {vs : List (Key × Value)} {es : List DictEntry}, Paired (Sv H) (kvs.map (·.2)) ds → KV (kvs.map fun q => ((Sum.inr q.1 : Key), q.2)) vs → Pairs (mixKind P w) es vs →
    ReadsAll s.heap (es.map (·.key)) (kvs.map fun q => PyData.str q.1) [] ∧ ∃ bs, ReadsAll s.heap (es.map (·.val)) ds bs ∧ sysModules ∉ bs
  | [], _, _, _, .nil, .nil, .nil => ⟨.nil, [], .nil, by simp⟩
  | q :: kvs, _, _, _, .cons x t, .cons r rr, .cons e1 e2 ee => by
    obtain ⟨h1, bs, h2, n2⟩ := entries_reads I t rr ee
    obtain ⟨as, g1, n1⟩ := sv_reads I x r.2
    have e1' := e1
    rw [← r.1] at e1'
    replace e1' : keyIs (Sum.inr q.1) _ = true := e1'
    rcases keyIs_shape e1' with ⟨i, t, z, _⟩ | ⟨y, t, z, ek⟩
    · cases z
    · cases z
      refine ⟨ReadsAll.cons (as := []) (bs := []) (by dsimp only; rw [ek]; exact Reads.str _ _) h1, _, ReadsAll.cons (by dsimp only; rw [e2]; exact g1) h2, fun z => (List.mem_append.mp z).elim n1 n2⟩
end
/-- the data of a dict of text keys -/
def dctD (kvs : List (Str × V)) (ds : List PyData) : PyData := .dict ((kvs.map fun q => PyData.str q.1).zip ds)
/-- repr(x) of data, or of a dict of text keys -/
def rReprI (K : Frag) : List V → Hp → VK → Prop := fun xs H Q => ∃ x : V, xs = [x] ∧ ((∃ z, Rp K H x z ∧ Q (.str z) H) ∨
  (∃ (a : Addr) (kvs : List (Str × V)) (ds : List PyData), x = .ref a ∧ H a = some (.dK (kvs.map fun q => ((Sum.inr q.1 : Key), q.2))) ∧ Paired (Sv H) (kvs.map (·.2)) ds ∧ (dctD kvs ds).showable = true ∧ (dctD kvs ds).depth ≤ 64 ∧ (dctD kvs ds).shown.length ≤ sizeLine ∧ Q (.str (dctD kvs ds).shown) H))
theorem call_reprI {X : Cx} (hg : X.A.guards = some []) (hu : X.A.units + 99 < cLine) : CallR X (.builtin "repr") (rReprI X.K) := by
  intro pins s σ H xs us Q I r h
  obtain ⟨x, rfl, ⟨z, hz, q⟩ | ⟨a, kvs, ds, rfl, h, hp, h1, h3, h4, q⟩⟩ := h
  · exact call_reprV hg hu pins s σ H _ us Q I r ⟨x, z, rfl, hz, q⟩
  · obtain ⟨u, rfl, ru⟩ := r.one
    cases (show u = Value.ref a from ru)
    obtain ⟨_, hsys, vs, kv, o, es, ep, ho, hx1, hd, _, hpr, _⟩ := I.hok a _ h
    obtain ⟨k1, bs, k2, nb⟩ := entries_reads I hp kv hpr
    have len : ds.length = (kvs.map fun q => PyData.str q.1).length := by
      rw [← hp.length, List.length_map, List.length_map]
    have f1 : ((kvs.map fun q => PyData.str q.1).zip ds).map (·.1) = kvs.map fun q => PyData.str q.1 := List.map_fst_zip (by omega)
    have f2 : ((kvs.map fun q => PyData.str q.1).zip ds).map (·.2) = ds := List.map_snd_zip (by omega)
    have rd : Reads s.heap (.ref a) (dctD kvs ds) ([a] ++ bs) := by
      refine Reads.dict (as := []) ho hx1.1 hd ?_ ?_
      · rw [f1]
        exact k1
      · rw [f2]
        exact k2
    refine repr_of_reads' rd h1 (fun _ hmm => ?_) hg (by omega) (fun _ _ z => z) (fun h' t tk hk => ?_) h4
    · rcases List.mem_append.mp hmm with z | z
      · have : sysModules = a := by simpa using z
        rw [this] at hsys
        simp at hsys
      · exact nb z
    · exact ⟨.str _, H, I.kept (t' := tk) hk, ⟨t, rfl⟩, q⟩
/-- points compared by > -/
theorem op_gtP {X : Cx} (hu : X.A.units + 64 < cLine) : OpR X (compareOp .Gt) (rPt fun p q => ptLt q p) := by
  intro pins s σ H x y v u Q I rx ry h
  obtain ⟨a, b, p, q, rfl, rfl, hp, hq, k⟩ := h
  obtain ⟨as, r1⟩ := Dp.reads I _ _ v hp.dp rx
  obtain ⟨bs, r2⟩ := Dp.reads I _ _ u hq.dp ry
  exact PySem.W.gt_data r1 r2 (pt_alike p q) (by intro z; cases z) (by simp [ptD, PyData.depth, PyData.depthAll]; omega) ⟨.bl _, H, I, rfl, k⟩
/-- a list display; the new list is not the table of modules -/
def tLstS (t : TA) : TE := fun σ H Q => t σ H fun vs H1 => vs.length ≤ sizeLine ∧ ∀ p, H1 p = none → p ≠ sysModules → Q (.ref p) (upd H1 p (.lst vs))
theorem pe_lstS {X : Cx} {es : List Expr} {t : TA} {pos : Pos} (h : PA X es t) : PE X (.List es pos) (tLstS t) := by
  refine ⟨fun pins s σ H Q I hq => ?_⟩
  refine wpAny_List_spliced (thn (h.run pos pins s σ H _ I hq) fun us s1 ⟨xs, H1, I1, r, z, q⟩ => ⟨by rw [← r.length]; exact z, ?_⟩)
  have hf : H1 s1.heap.objs.size = none := I1.hok.fresh (Nat.le_refl _)
  refine ⟨.ref s1.heap.objs.size, upd H1 s1.heap.objs.size (.lst xs), I1.laid (t' := s1.toks) (fun b u e => Heap.get?_push_of_some _ e) (Nat.le_refl _) ?_, rfl, q _ hf (Nat.ne_of_gt I1.big)⟩
  exact ⟨z, us, 0, r, Heap.get?_push_size _ rfl⟩
end Ah

namespace k56
open PySem PySem.Spec PyProof.Rows L2 He Ah
local macro_rules | `(tactic| walk_at "st") => `(tactic| repeat (first | refine ⟨_, rfl, ?_⟩ | refine ⟨_, _, rfl, rfl, ?_⟩))
local macro_rules | `(tactic| walk_at "lk") => `(tactic| repeat (first | exact look0 | rw [lookS (by decide +kernel)]))
local macro_rules | `(tactic| walk_at "pf") => `(tactic| repeat (first | rw [putF0] | rw [putF_hit] | rw [putFS (by decide +kernel)]))
local macro_rules | `(tactic| walk_at "nm") => `(tactic| simp only [tRet, tRetN, tSeq, tNext, tAsg, gName, tDrop, tIfS, tTest, tB, tNot, tAnd, tOr, tAndV, tOrV, tNotV, tIf, tC, tCons, tNil, tCB, tCall, tOp, tUn, tChain, rI0, rI, tVar, tSl, tPart, tNoPart, tLst, tTup, gSub, tPar, cxOf, L2.Cx.nox, L2.Cx.wish, L2.start, List.map_cons, List.map_nil, List.length_cons, List.length_nil, List.nil_append, List.cons_append, List.append_nil, Nat.zero_add, Nat.reduceAdd, Nat.reduceSub, Nat.sub_self, Nat.sub_zero, List.replicate_succ, List.replicate_zero, List.getElem?_cons_zero, List.getElem?_cons_succ, List.set_cons_zero, List.set_cons_succ, Option.some.injEq, exists_eq_left, exists_eq_left', exists_eq_right, exists_and_left, decide_eq_true_eq, decide_eq_false_iff_not, Bool.not_eq_true', V.int.injEq, V.bl.injEq, V.str.injEq, V.ref.injEq, List.cons.injEq, and_true, true_and, if_true, if_false, Bool.false_eq_true, Bool.not_true, Bool.not_false, ite_true, ite_false])
def sp_is_integer (K : Frag) : Sp := fun vs H Q _ => ∃ x k, vs = [x] ∧ Is K H x k ∧ Q (.bl (k.isT "int" && !k.isT "bool")) H
theorem sc_is_integer : FnScope ["value"] ["value"] (defScope s_is_integer) := ⟨rfl, rfl, rfl, by decide +kernel, rfl, by decide +kernel, by decide +kernel⟩
theorem ok_is_integer {P : Program} {w : World} {K : Frag} {mg : Str → Option Value} {base : Heap} (T : Txt K mg) : FnB P w K mg base 1 (glA "is_integer" K) (sp_is_integer K) := by
  refine okD (N := ["value"]) (ps := ["value"]) (k := 0) (d := g_is_integer) T.d_is_integer rfl sc_is_integer (fun vs H Q E h => ?_) (fun _ _ _ _ _ _ us hl => match us, hl with | [_], _ => rfl) (fun A outer s H vs Q E hr h => ?_)
  · obtain ⟨x, k, rfl, hx, q⟩ := h
    rfl
  · have hu := hr.hu
    obtain ⟨x, k, rfl, hx, q⟩ := h
    refine ⟨_, PSs.nox ((pss_one (ps_ret (pe_and (pe_callB call_isi (by rfl) T.b_isinstance (by decide +kernel) (pa_cons (pv 0) (pa_cons (pe_bltn (v := .ty "int") (u := .type "int") (by rfl) T.b_int (by decide +kernel) rfl) pa_nil))) (pe_one (pe_not (pe_callB call_isi (by rfl) T.b_isinstance (by decide +kernel) (pa_cons (pv 0) (pa_cons (pe_bltn (v := .ty "bool") (u := .type "bool") (by rfl) T.b_bool (by decide +kernel) rfl) pa_nil))))))))), ?_⟩
    walk_at "nm"
    refine isi "int" hx ?_
    walk_at "nm"
    cases e : k.isT "int" with
    | false =>
      rw [e] at q
      exact iteF q
    | true =>
      rw [e] at q
      refine iteT ?_
      exact isi "bool" hx ⟨_, rfl, q⟩

def sp_in_range (K : Frag) : Sp := fun vs H Q _ => ∃ x k a b, vs = [x, .int a, .int b] ∧ Is K H x k ∧ Q (.bl (k.within a b)) H
theorem sc_in_range : FnScope ["value", "least", "most"] ["value", "least", "most"] (defScope s_in_range) := ⟨rfl, rfl, rfl, by decide +kernel, rfl, by decide +kernel, by decide +kernel⟩
theorem ok_in_range {P : Program} {w : World} {K : Frag} {mg : Str → Option Value} {base : Heap} (T : Txt K mg) : FnB P w K mg base 2 (glA "in_range" K) (sp_in_range K) := by
  refine okD (N := ["value", "least", "most"]) (ps := ["value", "least", "most"]) (k := 1) (d := g_in_range) T.d_in_range rfl sc_in_range (fun vs H Q E h => ?_) (fun _ _ _ _ _ _ us hl => match us, hl with | [_, _, _], _ => rfl) (fun A outer s H vs Q E hr h => ?_)
  · obtain ⟨x, k, a, b, rfl, hx, q⟩ := h
    rfl
  · have hu := hr.hu
    obtain ⟨x, k, a, b, rfl, hx, q⟩ := h
    refine ⟨_, PSs.nox ((pss_one (ps_ret (pe_and (pe_cF (ok_is_integer (K := K) T) hr T.m_is_integer passL (pa_cons (pv 0) pa_nil)) (pe_one (pe_chain op_le op_le (pv 1) (pv 0) (pv 2))))))), ?_⟩
    walk_at "st"
    refine ⟨x, k, rfl, hx, ?_⟩
    walk_at "st"
    cases hx with
    | int i =>
      refine iteT ?_
      walk_at "st"
      by_cases h : a ≤ i
      · rw [decide_eq_true h]
        refine iteT ?_
        walk_at "st"
        have e : (Kn.int i).within a b = decide (i ≤ b) := by simp [Kn.within, h]
        rw [e] at q
        exact q
      · rw [decide_eq_false h]
        have e : (Kn.int i).within a b = false := by simp [Kn.within, h]
        rw [e] at q
        exact iteF q
    | _ => exact iteF q

def sp_is_key (K : Frag) : Sp := fun vs H Q _ => ∃ x k, vs = [x] ∧ Is K H x k ∧ k.small ∧ ∀ H', Same H H' → Q (.bl k.isKey) H'
theorem sc_is_key : FnScope ["value", "sign"] ["value"] (defScope s_is_key) := ⟨rfl, rfl, rfl, by decide +kernel, rfl, by decide +kernel, by decide +kernel⟩
theorem ok_is_key {P : Program} {w : World} {K : Frag} {mg : Str → Option Value} {base : Heap} (T : Txt K mg) : FnB P w K mg base 1 (glA "is_key" K) (sp_is_key K) := by
  refine okD (N := ["value", "sign"]) (ps := ["value"]) (k := 0) (d := g_is_key) T.d_is_key rfl sc_is_key (fun vs H Q E h => ?_) (fun _ _ _ _ _ _ us hl => match us, hl with | [_], _ => rfl) (fun A outer s H vs Q E hr h => ?_)
  · obtain ⟨x, k, rfl, hx, hs, q⟩ := h
    rfl
  · have hu := hr.hu
    obtain ⟨x, k, rfl, hx, hs, q⟩ := h
    refine ⟨_, PSs.nox ((pss_cons (ps_if (PW.pt (pw_or (pt_not (pt_val (pe_callB call_isi (by rfl) T.b_isinstance (by decide +kernel) (pa_cons (pv 0) (pa_cons (pe_bltn (v := .ty "str") (u := .type "str") (by rfl) T.b_str (by decide +kernel) rfl) pa_nil))))) (pw_or1 (pt_not (pt_chain op_le op_le pe_int (pe_callB call_len_str (by rfl) T.b_len (by decide +kernel) (pa_cons (pv 0) pa_nil)) (pe_gc (by rfl) (gint T.v_MAX_LENGTH)))))))
        (pss_one (ps_ret pe_bl))
        pss_nil)
      (pss_one (ps_ret (pe_callB (cr_all rfl) (by rfl) T.b_all (by decide +kernel) (pa_cons (pe_lc (own := [("sign", 1)]) (g := gName 1) rfl sc_is_key.nd (pi_str (pv 0)) (blkOk_by (N := ["value", "sign"]) (sc := defScope s_is_key) (by decide +kernel)) (fun _ _ _ _ _ => pg_name (i := 1) sc_is_key.nd rfl (Or.inl rfl)) (fun _ _ _ _ _ => pts_nil) (fun _ _ _ _ _ => (pe_cmpR op_in_sign (pv 1) (pe_gc (by rfl) (gstr T.v_CHARACTERS)) (by rfl)))) pa_nil)))))), ?_⟩
    walk_at "nm"
    refine isi "str" hx ?_
    walk_at "nm"
    cases hx with
    | str z =>
      rw [if_neg (by simp [Kn.isT])]
      have hz : z.length ≤ 1000000 := hs
      refine ⟨z, rfl, (by rw [sizeLine_eq]; omega), ?_⟩
      have q' : ∀ b, b = isKeyL z.cps.toList → ∀ H', Same H H' → Q (.bl b) H' := fun b e H' s => by rw [e]; exact q H' s
      have hl := str_len z
      by_cases h1 : (1 : Int) ≤ (z.length : Int)
      · rw [if_pos h1]
        by_cases h2 : (z.length : Int) ≤ 20
        · rw [if_neg (by omega)]
          refine ⟨_, rfl, _, rfl, fun D hD => ?_⟩
          refine lc_pure walk_str (f := fun i => .bl (keySign (z.cps.toList.getD i 0))) (it := fun i => .str ⟨#[z.cps.toList.getD i 0]⟩) (by rw [cps_len]; omega) hD (fun _ _ => trivial) (fun i H x H' _ y => yStr i H x H' y) (by intro i; rfl) ?_ ?_
          · intro i hi H' Q' s k
            refine ⟨_, rfl, _, rfl, _, rfl, ?_⟩
            have e := chars_mem (z.cps.toList.getD i 0)
            unfold chars at e
            rw [e]
            exact k H' (Same.refl _)
          · intro H' s hl'
            rw [cps_len, map_getD_range z.cps.toList 0 (fun c => V.bl (keySign c))] at hl'
            refine ⟨D, z.cps.toList.map keySign, rfl, SqL.of (by rw [hl', List.map_map]; rfl), ?_⟩
            refine q' _ ?_ H' s
            unfold isKeyL
            rw [decide_eq_true (by omega), decide_eq_true (by omega), List.all_map]
            rfl
        · rw [if_pos (by omega)]
          refine q' _ ?_ H (Same.refl _)
          unfold isKeyL
          rw [decide_eq_false (p := z.cps.toList.length ≤ 20) (by omega)]
          simp
      · rw [if_neg h1]
        refine q' _ ?_ H (Same.refl _)
        unfold isKeyL
        rw [decide_eq_false (p := 1 ≤ z.cps.toList.length) (by omega)]
        simp
    | _ =>
      rw [if_pos (by simp [Kn.isT])]
      exact q H (Same.refl _)

def sp__law_hand (K : Frag) : Sp := fun vs H Q _ => ∃ (c : Addr) (ns : List Int) (k : Int), vs = [.ref c, .int k] ∧ SqL K H c (ns.map V.int) ∧ ns.length ≤ 1000 ∧ (0 ≤ k ∧ k ≤ 1000) ∧
  ∀ H' p, Same H H' → H p = none → PoolAt H' p → Q (.ref p) H'
theorem sc__law_hand : FnScope ["_law_script", "_law_k", "_law_cell", "_law_seed"] ["_law_script", "_law_k"] (defScope s__law_hand) := ⟨rfl, rfl, rfl, by decide +kernel, rfl, by decide +kernel, by decide +kernel⟩
theorem ok__law_hand {P : Program} {w : World} {K : Frag} {mg : Str → Option Value} {base : Heap} (T : Txt K mg) : FnB P w K mg base 1 (glA "_law_hand" K) (sp__law_hand K) := by
  refine okD (N := ["_law_script", "_law_k", "_law_cell", "_law_seed"]) (ps := ["_law_script", "_law_k"]) (k := 0) (d := g__law_hand) T.d__law_hand rfl sc__law_hand (fun vs H Q E h => ?_) (fun _ _ _ _ _ _ us hl => match us, hl with | [_, _], _ => rfl) (fun A outer s H vs Q E hr h => ?_)
  · obtain ⟨c, ns, k, rfl, hc, hl, hk, q⟩ := h
    rfl
  · have hu := hr.hu
    obtain ⟨c, ns, k, rfl, hc, hl, hk, q⟩ := h
    refine ⟨_, PSs.nox ((pss_cons (ps_set (i := 2) sc__law_hand.nd rfl (Or.inl rfl) (pe_ix ix_list (pe_op op_cat (pe_slice sl_list (pv 0) (po_some (pv 1)) (po_some (pe_op op_add (pv 1) pe_int))) (pe_lst (pa_cons pe_int pa_nil))) pe_int (fun _ _ => rfl)))
      (pss_cons (ps_set (i := 3) sc__law_hand.nd rfl (Or.inl rfl) (pe_op op_mod (pe_op op_mul (pe_op op_add (pe_op op_add (pe_op op_mod (pv 2) pe_int) (pe_op op_mul pe_int (pv 1))) pe_int) pe_int) pe_int))
      (pss_one (ps_ret (pe_lst (pa_cons (pe_op op_mul (pe_callTy call_int1 (by rfl) T.b_int (by decide +kernel) (pa_cons (pe_cmpR op_ge (pv 2) (pe_op op_pow pe_int pe_int) (nomark _)) pa_nil)) (pv 2)) (pa_cons (pv 3) pa_nil)))))))), ?_⟩
    walk_at "nm"
    refine ⟨c, _, rfl, hc, fun p1 hp1 => ?_⟩
    obtain ⟨l', el, hl'⟩ := cutV_int ns (some k) (some (k + 1))
    rw [el]
    refine ⟨(by rw [sizeLine_eq]; decide), fun p2 hp2 => ?_⟩
    refine ⟨p1, p2, _, _, rfl, rfl, upd_keep upd_same hp2, upd_same, (by rw [List.length_map, sizeLine_eq]; simp; omega), fun p3 hp3 => ?_⟩
    obtain ⟨v, ev⟩ := head_int l'
    refine ixL (SqL.of upd_same) ev ?_
    refine ⟨v, rfl, by decide, .inl ⟨by decide, by decide⟩, .inr ⟨by decide, by decide⟩, by decide, ⟨by decide, by decide, by decide⟩, v, rfl, .inr ⟨v, rfl, .inl ⟨?_, ?_⟩, ?_⟩⟩
    · split <;> decide
    · split <;> decide
    · refine ⟨(by rw [sizeLine_eq]; decide), fun p hp => ?_⟩
      have s1 : Same H (upd H p1 (.lst (l'.map V.int))) := Same.upd (Same.refl _) hp1
      have s2 := Same.upd (o := .lst [V.int 0]) s1 hp2
      have s3 := Same.upd (o := .lst (l'.map V.int ++ [V.int 0])) s2 hp3
      exact q _ p (Same.upd s3 hp) (s3.free hp) ⟨_, _, upd_same⟩

def sp__law_draw (K : Frag) : Sp := fun vs H Q _ => ∃ (a : Addr) (m : Int), vs = [.ref a, .int m] ∧ PoolAt H a ∧ 0 < m ∧ m < 1073741824 ∧
  ∀ v H', 0 ≤ v → v < m → PoolAt H' a → Ex a H H' → Q (.int v) H'
theorem sc__law_draw : FnScope ["_law_pool", "_law_size", "_law_found"] ["_law_pool", "_law_size"] (defScope s__law_draw) := ⟨rfl, rfl, rfl, by decide +kernel, rfl, by decide +kernel, by decide +kernel⟩
theorem ok__law_draw {P : Program} {w : World} {K : Frag} {mg : Str → Option Value} {base : Heap} (T : Txt K mg) : FnB P w K mg base 1 (glA "_law_draw" K) (sp__law_draw K) := by
  refine okD (N := ["_law_pool", "_law_size", "_law_found"]) (ps := ["_law_pool", "_law_size"]) (k := 0) (d := g__law_draw) T.d__law_draw rfl sc__law_draw (fun vs H Q E h => ?_) (fun _ _ _ _ _ _ us hl => match us, hl with | [_, _], _ => rfl) (fun A outer s H vs Q E hr h => ?_)
  · obtain ⟨a, m, rfl, ⟨p, r, ha⟩, m0, m1, q⟩ := h
    rfl
  · have hu := hr.hu
    obtain ⟨a, m, rfl, ⟨p, r, ha⟩, m0, m1, q⟩ := h
    refine ⟨_, PSs.nox ((pss_cons (ps_if (pt_cmpR op_gt (pe_ix ix_list (pv 0) pe_int (fun _ _ => rfl)) pe_int (nomark _))
        (pss_cons (ps_set (i := 2) sc__law_draw.nd rfl (Or.inl rfl) (pe_op op_mod (pe_ix ix_list (pv 0) pe_int (fun _ _ => rfl)) (pv 1)))
        (pss_cons (ps_asg (pe_op op_fdiv (pe_ix ix_list (pv 0) pe_int (fun _ _ => rfl)) (pv 1)) (pg_sub (pv 0) pe_int set_list))
        (pss_one (ps_ret (pv 2)))))
        pss_nil)
      (pss_cons (ps_asg (pe_op op_mod (pe_op op_add (pe_op op_mul (pe_ix ix_list (pv 0) pe_int (fun _ _ => rfl)) pe_int) pe_int) pe_int) (pg_sub (pv 0) pe_int set_list))
      (pss_one (ps_ret (pe_op op_mod (pe_op op_fdiv (pe_op op_mod (pe_op op_mul (pe_ix ix_list (pv 0) pe_int (fun _ _ => rfl)) (pe_ix ix_list (pv 0) pe_int (fun _ _ => rfl))) pe_int) pe_int) (pv 1))))))), ?_⟩
    walk_at "nm"
    refine ixL (SqL.of ha) rfl ⟨_, rfl, ?_⟩
    by_cases hp : 0 < p
    · rw [if_pos hp]
      refine ixL (SqL.of ha) rfl ⟨_, rfl, m0, ?_⟩
      refine ixL (SqL.of ha) rfl ⟨_, rfl, ⟨m0, m1⟩, ?_⟩
      refine setL ha rfl ?_
      exact q _ _ (Int.emod_nonneg _ (Int.ne_of_gt m0)) (Int.emod_lt_of_pos _ m0) ⟨_, _, upd_same⟩ Ex.refl.upd
    · rw [if_neg hp]
      refine ixL (SqL.of ha) rfl ⟨_, rfl, .inr ⟨by decide, by decide⟩, by decide, ?_⟩
      refine setL ha rfl ?_
      have e1 := Int.emod_nonneg (r * 48271 + 11) (show (2147483647 : Int) ≠ 0 by decide)
      have e2 := Int.emod_lt_of_pos (r * 48271 + 11) (show (0 : Int) < 2147483647 by decide)
      refine ixL (i := 1) (v := .int ((r * 48271 + 11) % 2147483647)) (SqL.of upd_same) rfl ?_
      refine ixL (i := 1) (v := .int ((r * 48271 + 11) % 2147483647)) (SqL.of upd_same) rfl ⟨_, rfl, _, rfl, .inl ⟨by omega, by omega⟩, by decide, ⟨by decide, by decide⟩, m0, ?_⟩
      exact q _ _ (Int.emod_nonneg _ (Int.ne_of_gt m0)) (Int.emod_lt_of_pos _ m0) ⟨_, _, upd_same⟩ Ex.refl.upd

theorem sc_InvalidNumber_init : FnScope ["self", "value"] ["self", "value"] (defScope s_InvalidNumber_init) := ⟨rfl, rfl, rfl, by decide +kernel, rfl, by decide +kernel, by decide +kernel⟩
theorem ok_InvalidNumber_init {P : Program} {w : World} {K : Frag} {mg : Str → Option Value} {base : Heap} (T : Txt K mg) : FnU P w K mg base 1 (mtA "InvalidNumber" "__init__" K) (spX1 (ga K "InvalidNumber") "value") := by
  refine okU (N := ["self", "value"]) (ps := ["self", "value"]) (k := 0) (d := g_InvalidNumber_init) T.d_InvalidNumber_init rfl sc_InvalidNumber_init (fun vs H Q E h => ?_) (fun _ _ _ _ _ _ us hl => match us, hl with | [_, _], _ => rfl) (fun cdv A outer s H vs Q E hr h => ?_)
  · obtain ⟨a, v0, rfl, hx, q⟩ := h
    rfl
  · obtain ⟨a, v0, rfl, hx, q⟩ := h
    refine ⟨_, PSs.nox (pss_one (ps_stG (pv 0) (pv 1))), ?_⟩
    refine ⟨_, rfl, _, rfl, a, _, rfl, T.r_InvalidNumber.o, T.xn_InvalidNumber_value, .inl ⟨hx, fun dx hd ne => ?_⟩⟩
    exact q dx hd ne

theorem sc_InvalidMixing_init : FnScope ["self", "value"] ["self", "value"] (defScope s_InvalidMixing_init) := ⟨rfl, rfl, rfl, by decide +kernel, rfl, by decide +kernel, by decide +kernel⟩
theorem ok_InvalidMixing_init {P : Program} {w : World} {K : Frag} {mg : Str → Option Value} {base : Heap} (T : Txt K mg) : FnU P w K mg base 1 (mtA "InvalidMixing" "__init__" K) (spX1 (ga K "InvalidMixing") "value") := by
  refine okU (N := ["self", "value"]) (ps := ["self", "value"]) (k := 0) (d := g_InvalidMixing_init) T.d_InvalidMixing_init rfl sc_InvalidMixing_init (fun vs H Q E h => ?_) (fun _ _ _ _ _ _ us hl => match us, hl with | [_, _], _ => rfl) (fun cdv A outer s H vs Q E hr h => ?_)
  · obtain ⟨a, v0, rfl, hx, q⟩ := h
    rfl
  · obtain ⟨a, v0, rfl, hx, q⟩ := h
    refine ⟨_, PSs.nox (pss_one (ps_stG (pv 0) (pv 1))), ?_⟩
    refine ⟨_, rfl, _, rfl, a, _, rfl, T.r_InvalidMixing.o, T.xn_InvalidMixing_value, .inl ⟨hx, fun dx hd ne => ?_⟩⟩
    exact q dx hd ne

theorem sc_InvalidPoint_init : FnScope ["self", "value"] ["self", "value"] (defScope s_InvalidPoint_init) := ⟨rfl, rfl, rfl, by decide +kernel, rfl, by decide +kernel, by decide +kernel⟩
theorem ok_InvalidPoint_init {P : Program} {w : World} {K : Frag} {mg : Str → Option Value} {base : Heap} (T : Txt K mg) : FnU P w K mg base 1 (mtA "InvalidPoint" "__init__" K) (spX1 (ga K "InvalidPoint") "value") := by
  refine okU (N := ["self", "value"]) (ps := ["self", "value"]) (k := 0) (d := g_InvalidPoint_init) T.d_InvalidPoint_init rfl sc_InvalidPoint_init (fun vs H Q E h => ?_) (fun _ _ _ _ _ _ us hl => match us, hl with | [_, _], _ => rfl) (fun cdv A outer s H vs Q E hr h => ?_)
  · obtain ⟨a, v0, rfl, hx, q⟩ := h
    rfl
  · obtain ⟨a, v0, rfl, hx, q⟩ := h
    refine ⟨_, PSs.nox (pss_one (ps_stG (pv 0) (pv 1))), ?_⟩
    refine ⟨_, rfl, _, rfl, a, _, rfl, T.r_InvalidPoint.o, T.xn_InvalidPoint_value, .inl ⟨hx, fun dx hd ne => ?_⟩⟩
    exact q dx hd ne

theorem sc_InvalidArc_init : FnScope ["self", "first", "second"] ["self", "first", "second"] (defScope s_InvalidArc_init) := ⟨rfl, rfl, rfl, by decide +kernel, rfl, by decide +kernel, by decide +kernel⟩
theorem ok_InvalidArc_init {P : Program} {w : World} {K : Frag} {mg : Str → Option Value} {base : Heap} (T : Txt K mg) : FnU P w K mg base 1 (mtA "InvalidArc" "__init__" K) (spX2 (ga K "InvalidArc") "first" "second") := by
  refine okU (N := ["self", "first", "second"]) (ps := ["self", "first", "second"]) (k := 0) (d := g_InvalidArc_init) T.d_InvalidArc_init rfl sc_InvalidArc_init (fun vs H Q E h => ?_) (fun _ _ _ _ _ _ us hl => match us, hl with | [_, _, _], _ => rfl) (fun cdv A outer s H vs Q E hr h => ?_)
  · obtain ⟨a, v0, v1, rfl, hx, q⟩ := h
    rfl
  · obtain ⟨a, v0, v1, rfl, hx, q⟩ := h
    refine ⟨_, PSs.nox (pss_cons (ps_stG (pv 0) (pv 1)) (pss_one (ps_stG (pv 0) (pv 2)))), ?_⟩
    refine ⟨_, rfl, _, rfl, a, _, rfl, T.r_InvalidArc.o, T.xn_InvalidArc_first, .inl ⟨hx, fun dx hd ne => ?_⟩⟩
    refine ⟨_, rfl, _, rfl, a, _, rfl, T.r_InvalidArc.o, T.xn_InvalidArc_second, .inr ⟨dx, _, upd_same, by rw [upd_ne ne, upd_same], by simp, ?_⟩⟩
    exact q dx hd ne

theorem sc_InvalidStore_init : FnScope ["self", "value"] ["self", "value"] (defScope s_InvalidStore_init) := ⟨rfl, rfl, rfl, by decide +kernel, rfl, by decide +kernel, by decide +kernel⟩
theorem ok_InvalidStore_init {P : Program} {w : World} {K : Frag} {mg : Str → Option Value} {base : Heap} (T : Txt K mg) : FnU P w K mg base 1 (mtA "InvalidStore" "__init__" K) (spX1 (ga K "InvalidStore") "value") := by
  refine okU (N := ["self", "value"]) (ps := ["self", "value"]) (k := 0) (d := g_InvalidStore_init) T.d_InvalidStore_init rfl sc_InvalidStore_init (fun vs H Q E h => ?_) (fun _ _ _ _ _ _ us hl => match us, hl with | [_, _], _ => rfl) (fun cdv A outer s H vs Q E hr h => ?_)
  · obtain ⟨a, v0, rfl, hx, q⟩ := h
    rfl
  · obtain ⟨a, v0, rfl, hx, q⟩ := h
    refine ⟨_, PSs.nox (pss_one (ps_stG (pv 0) (pv 1))), ?_⟩
    refine ⟨_, rfl, _, rfl, a, _, rfl, T.r_InvalidStore.o, T.xn_InvalidStore_value, .inl ⟨hx, fun dx hd ne => ?_⟩⟩
    exact q dx hd ne

theorem sc_InvalidRecords_init : FnScope ["self", "position"] ["self", "position"] (defScope s_InvalidRecords_init) := ⟨rfl, rfl, rfl, by decide +kernel, rfl, by decide +kernel, by decide +kernel⟩
theorem ok_InvalidRecords_init {P : Program} {w : World} {K : Frag} {mg : Str → Option Value} {base : Heap} (T : Txt K mg) : FnU P w K mg base 1 (mtA "InvalidRecords" "__init__" K) (spX1 (ga K "InvalidRecords") "position") := by
  refine okU (N := ["self", "position"]) (ps := ["self", "position"]) (k := 0) (d := g_InvalidRecords_init) T.d_InvalidRecords_init rfl sc_InvalidRecords_init (fun vs H Q E h => ?_) (fun _ _ _ _ _ _ us hl => match us, hl with | [_, _], _ => rfl) (fun cdv A outer s H vs Q E hr h => ?_)
  · obtain ⟨a, v0, rfl, hx, q⟩ := h
    rfl
  · obtain ⟨a, v0, rfl, hx, q⟩ := h
    refine ⟨_, PSs.nox (pss_one (ps_stG (pv 0) (pv 1))), ?_⟩
    refine ⟨_, rfl, _, rfl, a, _, rfl, T.r_InvalidRecords.o, T.xn_InvalidRecords_position, .inl ⟨hx, fun dx hd ne => ?_⟩⟩
    exact q dx hd ne

theorem sc_InvalidReceipts_init : FnScope ["self", "position"] ["self", "position"] (defScope s_InvalidReceipts_init) := ⟨rfl, rfl, rfl, by decide +kernel, rfl, by decide +kernel, by decide +kernel⟩
theorem ok_InvalidReceipts_init {P : Program} {w : World} {K : Frag} {mg : Str → Option Value} {base : Heap} (T : Txt K mg) : FnU P w K mg base 1 (mtA "InvalidReceipts" "__init__" K) (spX1 (ga K "InvalidReceipts") "position") := by
  refine okU (N := ["self", "position"]) (ps := ["self", "position"]) (k := 0) (d := g_InvalidReceipts_init) T.d_InvalidReceipts_init rfl sc_InvalidReceipts_init (fun vs H Q E h => ?_) (fun _ _ _ _ _ _ us hl => match us, hl with | [_, _], _ => rfl) (fun cdv A outer s H vs Q E hr h => ?_)
  · obtain ⟨a, v0, rfl, hx, q⟩ := h
    rfl
  · obtain ⟨a, v0, rfl, hx, q⟩ := h
    refine ⟨_, PSs.nox (pss_one (ps_stG (pv 0) (pv 1))), ?_⟩
    refine ⟨_, rfl, _, rfl, a, _, rfl, T.r_InvalidReceipts.o, T.xn_InvalidReceipts_position, .inl ⟨hx, fun dx hd ne => ?_⟩⟩
    exact q dx hd ne

def sp_check_number (K : Frag) : Sp := fun vs H Q E => ∃ x k a b, vs = [x, .int a, .int b] ∧ Is K H x k ∧ (k.within a b = true → Q .non H) ∧ (k.within a b = false → Out1 K E H "InvalidNumber" "value" x)
theorem sc_check_number : FnScope ["value", "least", "most"] ["value", "least", "most"] (defScope s_check_number) := ⟨rfl, rfl, rfl, by decide +kernel, rfl, by decide +kernel, by decide +kernel⟩
theorem ok_check_number {P : Program} {w : World} {K : Frag} {mg : Str → Option Value} {base : Heap} (T : Txt K mg) : FnB P w K mg base 3 (glA "check_number" K) (sp_check_number K) := by
  refine okD (N := ["value", "least", "most"]) (ps := ["value", "least", "most"]) (k := 2) (d := g_check_number) T.d_check_number rfl sc_check_number (fun vs H Q E h => ?_) (fun _ _ _ _ _ _ us hl => match us, hl with | [_, _, _], _ => rfl) (fun A outer s H vs Q E hr h => ?_)
  · obtain ⟨x, k, a, b, rfl, hx, q, qe⟩ := h
    rfl
  · have hu := hr.hu
    obtain ⟨x, k, a, b, rfl, hx, q, qe⟩ := h
    refine ⟨_, (pss_one (ps_if (pt_not (pt_val (pe_cF (ok_in_range (K := K) T) hr T.m_in_range passL (pa_cons (pv 0) (pa_cons (pv 1) (pa_cons (pv 2) pa_nil))))))
        (pss_one (ps_raiseC rfl (takes_of rfl rfl rfl rfl) T.r_InvalidNumber (ok_InvalidNumber_init (K := K) T) hr (pa_cons (pv 0) pa_nil)))
        pss_nil)), ?_⟩
    walk_at "nm"
    refine ⟨x, k, a, b, rfl, hx, ?_⟩
    walk_at "nm"
    cases e : k.within a b with
    | true =>
      rw [if_neg (by decide)]
      exact q e
    | false =>
      rw [if_pos rfl]
      exact (qe e).mk fun Q' q' => ⟨_, rfl, q'⟩

def sp_check_least (K : Frag) : Sp := fun vs H Q E => ∃ x k m, vs = [x, .int m] ∧ Is K H x k ∧ (k.least m = true → Q .non H) ∧ (k.least m = false → Out1 K E H "InvalidNumber" "value" x)
theorem sc_check_least : FnScope ["value", "least"] ["value", "least"] (defScope s_check_least) := ⟨rfl, rfl, rfl, by decide +kernel, rfl, by decide +kernel, by decide +kernel⟩
theorem ok_check_least {P : Program} {w : World} {K : Frag} {mg : Str → Option Value} {base : Heap} (T : Txt K mg) : FnB P w K mg base 3 (glA "check_least" K) (sp_check_least K) := by
  refine okD (N := ["value", "least"]) (ps := ["value", "least"]) (k := 2) (d := g_check_least) T.d_check_least rfl sc_check_least (fun vs H Q E h => ?_) (fun _ _ _ _ _ _ us hl => match us, hl with | [_, _], _ => rfl) (fun A outer s H vs Q E hr h => ?_)
  · obtain ⟨x, k, m, rfl, hx, q, qe⟩ := h
    rfl
  · have hu := hr.hu
    obtain ⟨x, k, m, rfl, hx, q, qe⟩ := h
    refine ⟨_, (pss_one (ps_if (PW.pt (pw_or (pt_not (pt_val (pe_cF (ok_is_integer (K := K) T) hr T.m_is_integer passL (pa_cons (pv 0) pa_nil)))) (pw_or1 (pt_cmpR op_lt (pv 0) (pv 1) (nomark _)))))
        (pss_one (ps_raiseC rfl (takes_of rfl rfl rfl rfl) T.r_InvalidNumber (ok_InvalidNumber_init (K := K) T) hr (pa_cons (pv 0) pa_nil)))
        pss_nil)), ?_⟩
    walk_at "nm"
    refine ⟨x, k, rfl, hx, ?_⟩
    rw [isInt_eq]
    walk_at "nm"
    cases hx with
    | int i =>
      rw [if_neg (by simp [Kn.isInt])]
      refine ⟨i, rfl, ?_⟩
      by_cases h : i < m
      · rw [if_pos h]
        exact (qe (decide_eq_false (by omega))).mk fun Q' q' => ⟨_, rfl, q'⟩
      · rw [if_neg h]
        exact q (decide_eq_true (by omega))
    | _ =>
      rw [if_pos (by rfl)]
      exact (qe rfl).mk fun Q' q' => ⟨_, rfl, q'⟩

def sp_is_point (K : Frag) : Sp := fun vs H Q _ => ∃ x b, vs = [x] ∧ PtV K H x b ∧ ∀ H', Same H H' → Q (.bl b) H'
theorem sc_is_point : FnScope ["value", "text"] ["value"] (defScope s_is_point) := ⟨rfl, rfl, rfl, by decide +kernel, rfl, by decide +kernel, by decide +kernel⟩
theorem ok_is_point {P : Program} {w : World} {K : Frag} {mg : Str → Option Value} {base : Heap} (T : Txt K mg) : FnB P w K mg base 3 (glA "is_point" K) (sp_is_point K) := by
  refine okD (N := ["value", "text"]) (ps := ["value"]) (k := 2) (d := g_is_point) T.d_is_point rfl sc_is_point (fun vs H Q E h => ?_) (fun _ _ _ _ _ _ us hl => match us, hl with | [_], _ => rfl) (fun A outer s H vs Q E hr h => ?_)
  · obtain ⟨x, b, rfl, hx, q⟩ := h
    rfl
  · have hu := hr.hu
    obtain ⟨x, b, rfl, hx, q⟩ := h
    refine ⟨_, PSs.nox ((pss_cons (ps_if (PW.pt (pw_or (pt_not (pt_val (pe_callB call_isi (by rfl) T.b_isinstance (by decide +kernel) (pa_cons (pv 0) (pa_cons (pe_bltn (v := .ty "tuple") (u := .type "tuple") (by rfl) T.b_tuple (by decide +kernel) rfl) pa_nil))))) (pw_or (pt_cmpR op_ne (pe_callB call_len_seq (by rfl) T.b_len (by decide +kernel) (pa_cons (pv 0) pa_nil)) pe_int (nomark _)) (pw_or1 (pt_not (pt_val (pe_cF (ok_in_range (K := K) T) hr T.m_in_range passL (pa_cons (pe_ix ix_tup (pv 0) pe_int (fun _ _ => rfl)) (pa_cons pe_int (pa_cons (pe_gc (by rfl) (gint T.v_MAX_NUMBER)) pa_nil))))))))))
        (pss_one (ps_ret pe_bl))
        pss_nil)
      (pss_cons (ps_set (i := 1) sc_is_point.nd rfl (Or.inl rfl) (pe_ix ix_tup (pv 0) pe_int (fun _ _ => rfl)))
      (pss_cons (ps_if (pt_not (pt_val (pe_callB call_isi (by rfl) T.b_isinstance (by decide +kernel) (pa_cons (pv 1) (pa_cons (pe_bltn (v := .ty "str") (u := .type "str") (by rfl) T.b_str (by decide +kernel) rfl) pa_nil)))))
        (pss_one (ps_ret pe_bl))
        pss_nil)
      (pss_cons (ps_if (pt_cmpR op_eq (pv 1) pe_str (nomark _))
        (pss_one (ps_ret pe_bl))
        pss_nil)
      (pss_cons (ps_if (pt_cmpR op_eq (pe_ix ix_tup (pv 0) pe_int (fun _ _ => rfl)) (pe_gc (by rfl) (gint T.v_MAX_NUMBER)) (nomark _))
        (pss_one (ps_ret pe_bl))
        pss_nil)
      (pss_one (ps_ret (pe_ifExp (pt_cmpR op_eq (pe_ix ix_str (pv 1) (pe_un un_neg pe_int) (fun _ _ => rfl)) (pe_gc (by rfl) (gstr T.v_BEHIND)) (nomark _)) (pe_cF (ok_is_key (K := K) T) hr T.m_is_key passL (pa_cons (pe_slice C8.sl_txt (pv 1) po_none (po_some (pe_un un_neg pe_int))) pa_nil)) (pe_cF (ok_is_key (K := K) T) hr T.m_is_key passL (pa_cons (pv 1) pa_nil))))))))))), ?_⟩
    walk_at "nm"
    cases hx with
    | no h hk =>
      refine isi "tuple" h ⟨_, rfl, ?_⟩
      rw [hk, if_pos rfl]
      exact q H (Same.refl _)
    | @len a l e hl hm =>
      refine isi "tuple" (.tup e) ⟨_, rfl, ?_⟩
      rw [if_neg (show ¬ (Kn.tup a l).isT "tuple" = false from fun z => by cases z)]
      refine ⟨_, rfl, _, .inr (SqT.of e), rfl, _, rfl, ?_⟩
      rw [if_pos (by simp; omega)]
      exact q H (Same.refl _)
    | @two a u t ku kt e hu' ht hs =>
      refine isi "tuple" (.tup e) ⟨_, rfl, ?_⟩
      rw [if_neg (show ¬ (Kn.tup a [u, t]).isT "tuple" = false from fun z => by cases z)]
      refine ⟨_, rfl, _, .inr (SqT.of e), rfl, _, rfl, ?_⟩
      rw [if_neg (by simp)]
      refine ixT (SqT.of e) rfl ⟨_, ku, _, _, rfl, hu', _, rfl, ?_⟩
      have q' : ∀ b, b = ptK ku kt → ∀ H', Same H H' → Q (.bl b) H' := fun b e H' s => by rw [e]; exact q H' s
      cases hw : ku.within 0 4294967296 with
      | false =>
        rw [if_pos rfl]
        refine q' _ ?_ H (Same.refl _)
        unfold ptK
        rw [hw]
        rfl
      | true =>
        rw [if_neg (by simp)]
        cases hu' with
        | int i =>
          refine ixT (SqT.of e) rfl ?_
          refine isi "str" ht ⟨_, rfl, ?_⟩
          cases ht with
          | str z =>
            rw [if_neg (show ¬ (Kn.str z).isT "str" = false from fun z => by cases z)]
            have hz : z.length ≤ 1000000 := hs
            have hzl := str_len z
            refine ⟨rfl, _, rfl, ?_⟩
            by_cases h0 : z = Str.ofString ""
            · rw [if_pos (by simp [h0])]
              refine q' _ ?_ H (Same.refl _)
              unfold ptK
              rw [hw, h0]
              rfl
            · rw [if_neg (by simpa using h0)]
              have hne : z.cps.toList ≠ [] := fun e => h0 (PySem.W.str_of_cps e)
              have he : z.cps.toList.isEmpty = false := by simpa using hne
              refine ixT (SqT.of e) rfl ⟨rfl, _, rfl, ?_⟩
              by_cases hi : i = 4294967296
              · rw [if_pos (by simp [hi])]
                refine q' _ ?_ H (Same.refl _)
                rw [ptK_is, hw, he, hi]
                rfl
              · rw [if_neg (by simpa using hi)]
                have hp : ptK (.int i) (.str z) = textOk z.cps.toList := by
                  rw [ptK_is, hw, he]
                  simp [hi]
                rw [hp] at q'
                obtain ⟨l, c, hlc⟩ : ∃ l c, z.cps.toList = l ++ [c] := ⟨_, _, (List.dropLast_concat_getLast hne).symm⟩
                have hS : z = SX.S (l ++ [c]) := by rw [← hlc, SX.S_tl]
                refine ⟨_, rfl, _, _, c, rfl, rfl, (by rw [sizeLine_eq]; omega), ?_, ?_⟩
                · rw [hlc]
                  exact atI_last l c
                · refine ⟨rfl, _, rfl, ?_⟩
                  by_cases hc : c = 33
                  · subst hc
                    rw [if_pos (by decide +kernel)]
                    refine ⟨_, rfl, _, rfl, z, rfl, (by rw [sizeLine_eq]; omega), ?_⟩
                    have hsl : Txt.slice z none (some (-1)) = SX.S l := by rw [hS]; exact SX.butlast_snoc l 33
                    have hll : z.cps.toList.length = l.length + 1 := by rw [hlc]; simp
                    rw [hsl]
                    refine ⟨_, .str _, rfl, .str _, ?_, fun H' s => q' _ ?_ H' s⟩
                    · show (SX.S l).length ≤ 1000000
                      rw [SX.S_len]
                      omega
                    · show isKeyL (SX.S l).cps.toList = _
                      rw [hlc, textOk_snoc, if_pos rfl, ]
                  · rw [if_neg (by rw [show Str.ofString "!" = ⟨#[33]⟩ by decide +kernel]; simpa using hc)]
                    refine ⟨_, .str z, rfl, .str z, hs, fun H' s => q' _ ?_ H' s⟩
                    show isKeyL z.cps.toList = _
                    rw [hlc, textOk_snoc, if_neg hc]
          | _ =>
            rw [if_pos (by rfl)]
            refine q' _ ?_ H (Same.refl _)
            unfold ptK
            rw [hw]
            rfl
        | _ => cases hw

def sp_check_point (K : Frag) : Sp := fun vs H Q E => ∃ x b, vs = [x] ∧ PtV K H x b ∧ (b = true → ∀ H', Same H H' → Q .non H') ∧ (b = false → Out1 K E H "InvalidPoint" "value" x)
theorem sc_check_point : FnScope ["value"] ["value"] (defScope s_check_point) := ⟨rfl, rfl, rfl, by decide +kernel, rfl, by decide +kernel, by decide +kernel⟩
theorem ok_check_point {P : Program} {w : World} {K : Frag} {mg : Str → Option Value} {base : Heap} (T : Txt K mg) : FnB P w K mg base 4 (glA "check_point" K) (sp_check_point K) := by
  refine okD (N := ["value"]) (ps := ["value"]) (k := 3) (d := g_check_point) T.d_check_point rfl sc_check_point (fun vs H Q E h => ?_) (fun _ _ _ _ _ _ us hl => match us, hl with | [_], _ => rfl) (fun A outer s H vs Q E hr h => ?_)
  · obtain ⟨x, b, rfl, hx, q, qe⟩ := h
    rfl
  · have hu := hr.hu
    obtain ⟨x, b, rfl, hx, q, qe⟩ := h
    refine ⟨_, (pss_one (ps_if (pt_not (pt_val (pe_cF (ok_is_point (K := K) T) hr T.m_is_point passL (pa_cons (pv 0) pa_nil))))
        (pss_one (ps_raiseC rfl (takes_of rfl rfl rfl rfl) T.r_InvalidPoint (ok_InvalidPoint_init (K := K) T) hr (pa_cons (pv 0) pa_nil)))
        pss_nil)), ?_⟩
    walk_at "nm"
    refine ⟨_, b, rfl, hx, fun H1 s1 => ?_⟩
    walk_at "nm"
    cases b with
    | true =>
      rw [if_neg (by decide)]
      exact q rfl H1 s1
    | false =>
      rw [if_pos rfl]
      exact ((qe rfl).same s1).mk fun Q' q' => ⟨_, rfl, q'⟩

def sp_Arc_init (K : Frag) : Sp := fun vs H Q E => ∃ (x dx : Addr) (u v : V), vs = [.ref x, u, v] ∧ H x = some (.ins (ga K "Arc") dx []) ∧
  ((PtV K H u false ∧ Out1 K E H "InvalidPoint" "value" u) ∨ (PtV K H u true ∧ PtV K H v false ∧ Out1 K E H "InvalidPoint" "value" v) ∨
   (∃ (a b : Addr) (p q : Pt), u = .ref a ∧ v = .ref b ∧ PtV K H u true ∧ PtV K H v true ∧ PtAt H a p ∧ PtAt H b q ∧
     ((ptLt p q = false ∧ Out2 K E H "InvalidArc" "first" "second" u v) ∨ (ptLt p q = true ∧ ∀ H', (∃ dx, H' x = some (.ins (ga K "Arc") dx [("own_start", u), ("own_end", v)])) → Ex x H H' → Q .non H'))))
theorem sc_Arc_init : FnScope ["self", "start", "end"] ["self", "start", "end"] (defScope s_Arc_init) := ⟨rfl, rfl, rfl, by decide +kernel, rfl, by decide +kernel, by decide +kernel⟩
theorem ok_Arc_init {P : Program} {w : World} {K : Frag} {mg : Str → Option Value} {base : Heap} (T : Txt K mg) : FnB P w K mg base 5 (mtA "Arc" "__init__" K) (sp_Arc_init K) := by
  refine okD (N := ["self", "start", "end"]) (ps := ["self", "start", "end"]) (k := 4) (d := g_Arc_init) T.d_Arc_init rfl sc_Arc_init (fun vs H Q E h => ?_) (fun _ _ _ _ _ _ us hl => match us, hl with | [_, _, _], _ => rfl) (fun A outer s H vs Q E hr h => ?_)
  · obtain ⟨x, dx, u, v, rfl, hx, q⟩ := h
    rfl
  · have hu := hr.hu
    obtain ⟨x, dx, u, v, rfl, hx, q⟩ := h
    refine ⟨_, (pss_cons (ps_expr (pe_cF (ok_check_point (K := K) T) hr T.m_check_point (passes_call (takes_of rfl rfl rfl rfl) (fun _ _ _ _ h => h)) (pa_cons (pv 1) pa_nil)))
      (pss_cons (ps_expr (pe_cF (ok_check_point (K := K) T) hr T.m_check_point (passes_call (takes_of rfl rfl rfl rfl) (fun _ _ _ _ h => h)) (pa_cons (pv 2) pa_nil)))
      (pss_cons (ps_if (pt_not (pt_cmpR (op_ltP (hu64 hr)) (pv 1) (pv 2) (nomark _)))
        (pss_one (ps_raiseC rfl (takes_of rfl rfl rfl rfl) T.r_InvalidArc (ok_InvalidArc_init (K := K) T) hr (pa_cons (pv 1) (pa_cons (pv 2) pa_nil))))
        pss_nil)
      (pss_cons (ps_fld (pv 0) (pv 1) rfl)
      (pss_one (ps_fld (pv 0) (pv 2) rfl)))))), ?_⟩
    walk_at "nm"
    rcases q with ⟨h1, o⟩ | ⟨h1, h2, o⟩ | ⟨a, b, p, r, rfl, rfl, h1, h2, hp, hr', q⟩
    · exact ⟨_, _, rfl, h1, (fun z => by cases z), fun _ => o⟩
    · refine ⟨_, _, rfl, h1, (fun _ H1 s1 => ?_), (fun z => by cases z)⟩
      exact ⟨_, _, rfl, h2.same s1, (fun z => by cases z), fun _ => o.same s1⟩
    · refine ⟨_, _, rfl, h1, (fun _ H1 s1 => ?_), (fun z => by cases z)⟩
      walk_at "nm"
      refine ⟨_, _, rfl, h2.same s1, (fun _ H2 s2 => ?_), (fun z => by cases z)⟩
      walk_at "nm"
      have s3 := s1.trans s2
      refine ⟨a, b, p, r, rfl, rfl, hp.same s3, hr'.same s3, _, rfl, ?_⟩
      rcases q with ⟨hl, o⟩ | ⟨hl, q⟩
      · rw [hl, if_pos rfl]
        exact (o.same s3).mk fun Q' q' => ⟨_, rfl, _, rfl, q'⟩
      · rw [hl, if_neg (by decide)]
        refine ⟨_, rfl, _, rfl, x, _, dx, [], rfl, s3 _ _ hx, T.c_Arc, T.n_Arc_own_start, (by decide), ?_⟩
        refine ⟨_, rfl, _, rfl, x, _, dx, _, rfl, upd_same, T.c_Arc, T.n_Arc_own_end, (by rw [putF0]; simp), ?_⟩
        refine q _ ⟨dx, ?_⟩ ((Ex.of_same s3).trans Ex.refl.upd.upd)
        rw [upd_same]
        walk_at "pf"

theorem newArc {K : Frag} {σ : L2.St} {t : TA} {H : Hp} {a b : Addr} {p r : Pt} {Q : VK} {E : XK} (ha : PtAt H a p) (hb : PtAt H b r) (h1 : isPt p = true) (h2 : isPt r = true) (l1 : p.2.length ≤ 1000000) (l2 : r.2.length ≤ 1000000) (lt : ptLt p r = true) (ht : ∀ Q' : List V → Hp → Prop, Q' [V.ref a, V.ref b] H → t σ H Q')
    (q : ∀ G x dx, Same H G → H x = none → G x = some (.ins (ga K "Arc") dx [("own_start", .ref a), ("own_end", .ref b)]) → Q (.ref x) G) : tMake (ga K "Arc") (sp_Arc_init K) [] E t σ H Q := by
  refine ht _ ?_
  intro x dx nx ndx ne
  have s := same_made (o := .own x) (C := ga K "Arc") (fs := []) nx ndx ne
  have ha' := ha.same s
  have hb' := hb.same s
  exact ⟨x, dx, .ref a, .ref b, rfl, upd_same, .inr (.inr ⟨a, b, p, r, rfl, rfl, ha'.ptv h1 l1, hb'.ptv h2 l2, ha', hb', .inr ⟨lt, fun G hx ex => ⟨rfl, let ⟨ldx, hx⟩ := hx; q G x ldx (fun c o h => ex c o (ne_of_none h nx) (s c o h)) nx hx⟩⟩⟩)⟩

theorem newArcT {K : Frag} {σ : L2.St} {t : TA} {H : Hp} {p r : Pt} {Q : VK} {E : XK} (h1 : isPt p = true) (h2 : isPt r = true) (l1 : p.2.length ≤ 1000000) (l2 : r.2.length ≤ 1000000) (lt : ptLt p r = true) (ht : ∀ Q' : List V → Hp → Prop, (∀ G a b, Same H G → PtAt G a p → PtAt G b r → Q' [V.ref a, V.ref b] G) → t σ H Q')
    (q : ∀ G x dx a b, Same H G → H x = none → PtAt G a p → PtAt G b r → G x = some (.ins (ga K "Arc") dx [("own_start", .ref a), ("own_end", .ref b)]) → Q (.ref x) G) : tMake (ga K "Arc") (sp_Arc_init K) [] E t σ H Q := by
  refine ht _ fun G1 a b s1 ha hb => ?_
  intro x dx nx ndx ne
  have s := same_made (o := .own x) (C := ga K "Arc") (fs := []) nx ndx ne
  have ha' := ha.same s
  have hb' := hb.same s
  refine ⟨x, dx, .ref a, .ref b, rfl, upd_same, .inr (.inr ⟨a, b, p, r, rfl, rfl, ha'.ptv h1 l1, hb'.ptv h2 l2, ha', hb', .inr ⟨lt, fun G hx ex => ⟨rfl, ?_⟩⟩⟩)⟩
  obtain ⟨ldx, hx⟩ := hx
  have s3 : Same G1 G := fun c o h => ex c o (ne_of_none h nx) (s c o h)
  exact q G x ldx a b (s1.trans s3) (s1.free nx) (ha.same s3) (hb.same s3) hx

def sp_check_arc (K : Frag) : Sp := fun vs H Q E => ∃ (x : V) (k : Kn), vs = [x] ∧ Is K H x k ∧ (∀ a D, k = .ins a D → D = ga K "Arc") ∧ (k.isC (ga K "Arc") = true → Q .non H) ∧ (k.isC (ga K "Arc") = false → Out2 K E H "InvalidArc" "first" "second" .non .non)
theorem sc_check_arc : FnScope ["value"] ["value"] (defScope s_check_arc) := ⟨rfl, rfl, rfl, by decide +kernel, rfl, by decide +kernel, by decide +kernel⟩
theorem ok_check_arc {P : Program} {w : World} {K : Frag} {mg : Str → Option Value} {base : Heap} (T : Txt K mg) : FnB P w K mg base 3 (glA "check_arc" K) (sp_check_arc K) := by
  refine okD (N := ["value"]) (ps := ["value"]) (k := 2) (d := g_check_arc) T.d_check_arc rfl sc_check_arc (fun vs H Q E h => ?_) (fun _ _ _ _ _ _ us hl => match us, hl with | [_], _ => rfl) (fun A outer s H vs Q E hr h => ?_)
  · obtain ⟨x, k, rfl, hx, hk, q, o⟩ := h
    rfl
  · have hu := hr.hu
    obtain ⟨x, k, rfl, hx, hk, q, o⟩ := h
    refine ⟨_, (pss_one (ps_if (pt_not (pt_val (pe_callB call_isi (by rfl) T.b_isinstance (by decide +kernel) (pa_cons (pv 0) (pa_cons (pe_gc (v := .ref (ga K "Arc")) (by rfl) ⟨_, T.m_Arc, rfl⟩) pa_nil)))))
        (pss_one (ps_raiseC rfl (takes_of rfl rfl rfl rfl) T.r_InvalidArc (ok_InvalidArc_init (K := K) T) hr (pa_cons pe_non (pa_cons pe_non pa_nil))))
        pss_nil)), ?_⟩
    walk_at "nm"
    refine isiC hx T.q_Arc (fun a D e hn => absurd (hk a D e) hn) ?_
    walk_at "nm"
    cases e : k.isC (ga K "Arc") with
    | true =>
      rw [if_neg (by decide)]
      exact q e
    | false =>
      rw [if_pos rfl]
      exact (o e).mk fun Q' q' => q'

/-- a Mixing stands at x -/
def MixAt (K : Frag) (H : Hp) (x : Addr) (b n : Int) : Prop := ∃ dx, H x = some (.ins (ga K "Mixing") dx [("own_base", .int b), ("own_bits", .int n)])
theorem MixAt.same {K : Frag} {H H' : Hp} {x : Addr} {b n : Int} (h : MixAt K H x b n) (s : Same H H') : MixAt K H' x b n := by
  obtain ⟨dx, h⟩ := h
  exact ⟨dx, s _ _ h⟩
theorem MixAt.nx {K : Frag} {H H' : Hp} {x pl : Addr} {b n : Int} (h : MixAt K H x b n) (p : PoolAt H pl) (y : Nx pl H H') : MixAt K H' x b n := by
  obtain ⟨dx, h⟩ := h
  obtain ⟨i, j, e⟩ := p
  exact ⟨dx, y _ _ (ne_of h e (fun z => by cases z)) h (fun ps z => by cases z)⟩
structure BN (b n : Int) : Prop where
  b1 : 1 ≤ b
  b2 : b ≤ 1000
  n1 : 1 ≤ n
  n2 : n ≤ 32

def sp_Mixing_init (K : Frag) : Sp := fun vs H Q E => ∃ (x dx : Addr) (u v : V) (ku kv : Kn), vs = [.ref x, u, v] ∧ H x = some (.ins (ga K "Mixing") dx []) ∧ Is K H u ku ∧ Is K H v kv ∧
  ((ku.within 1 1000 = false ∧ Out1 K E H "InvalidNumber" "value" u) ∨ (ku.within 1 1000 = true ∧ kv.within 1 32 = false ∧ Out1 K E H "InvalidNumber" "value" v) ∨
   (∃ b n : Int, u = .int b ∧ v = .int n ∧ BN b n ∧ ∀ H', MixAt K H' x b n → Ex x H H' → Q .non H'))
theorem sc_Mixing_init : FnScope ["self", "base", "bits"] ["self", "base", "bits"] (defScope s_Mixing_init) := ⟨rfl, rfl, rfl, by decide +kernel, rfl, by decide +kernel, by decide +kernel⟩
theorem ok_Mixing_init {P : Program} {w : World} {K : Frag} {mg : Str → Option Value} {base : Heap} (T : Txt K mg) : FnB P w K mg base 4 (mtA "Mixing" "__init__" K) (sp_Mixing_init K) := by
  refine okD (N := ["self", "base", "bits"]) (ps := ["self", "base", "bits"]) (k := 3) (d := g_Mixing_init) T.d_Mixing_init rfl sc_Mixing_init (fun vs H Q E h => ?_) (fun _ _ _ _ _ _ us hl => match us, hl with | [_, _, _], _ => rfl) (fun A outer s H vs Q E hr h => ?_)
  · obtain ⟨x, dx, u, v, ku, kv, rfl, hx, hku, hkv, q⟩ := h
    rfl
  · have hu := hr.hu
    obtain ⟨x, dx, u, v, ku, kv, rfl, hx, hku, hkv, q⟩ := h
    refine ⟨_, (pss_cons (ps_expr (pe_cF (ok_check_number (K := K) T) hr T.m_check_number (passes_call (takes_of rfl rfl rfl rfl) (fun _ _ _ _ h => h)) (pa_cons (pv 1) (pa_cons pe_int (pa_cons (pe_gc (by rfl) (gint T.v_MAX_BASE)) pa_nil)))))
      (pss_cons (ps_expr (pe_cF (ok_check_number (K := K) T) hr T.m_check_number (passes_call (takes_of rfl rfl rfl rfl) (fun _ _ _ _ h => h)) (pa_cons (pv 2) (pa_cons pe_int (pa_cons (pe_gc (by rfl) (gint T.v_MAX_BITS)) pa_nil)))))
      (pss_cons (ps_fld (pv 0) (pv 1) rfl)
      (pss_one (ps_fld (pv 0) (pv 2) rfl))))), ?_⟩
    walk_at "nm"
    rcases q with ⟨h1, o⟩ | ⟨h1, h2, o⟩ | ⟨b, n, rfl, rfl, hb, q⟩
    · exact ⟨_, ku, _, _, rfl, hku, (fun z => by rw [h1] at z; cases z), fun _ => o⟩
    · refine ⟨_, ku, _, _, rfl, hku, (fun _ => ?_), (fun z => by rw [h1] at z; cases z)⟩
      exact ⟨_, kv, _, _, rfl, hkv, (fun z => by rw [h2] at z; cases z), fun _ => o⟩
    · obtain ⟨b1, b2, n1, n2⟩ := hb
      refine ⟨_, .int b, _, _, rfl, .int b, (fun _ => ?_), fun z => absurd z (by simp [Kn.within]; omega)⟩
      walk_at "nm"
      refine ⟨_, .int n, _, _, rfl, .int n, (fun _ => ?_), fun z => absurd z (by simp [Kn.within]; omega)⟩
      refine ⟨_, rfl, _, rfl, x, _, dx, [], rfl, hx, T.c_Mixing, T.n_Mixing_own_base, (by decide), ?_⟩
      refine ⟨_, rfl, _, rfl, x, _, dx, _, rfl, upd_same, T.c_Mixing, T.n_Mixing_own_bits, (by rw [putF0]; simp), ?_⟩
      refine q _ ⟨dx, ?_⟩ (Ex.refl.upd.upd)
      rw [upd_same]
      walk_at "pf"

theorem newMix {K : Frag} {σ : L2.St} {t : TA} {H : Hp} {b n : Int} {Q : VK} {E : XK} (hb : BN b n) (ht : ∀ Q' : List V → Hp → Prop, Q' [V.int b, V.int n] H → t σ H Q')
    (q : ∀ G x, Same H G → H x = none → MixAt K G x b n → Q (.ref x) G) : tMake (ga K "Mixing") (sp_Mixing_init K) [] E t σ H Q := by
  refine ht _ ?_
  intro x dx nx ndx ne
  have s := same_made (o := .own x) (C := ga K "Mixing") (fs := []) nx ndx ne
  exact ⟨x, dx, .int b, .int n, .int b, .int n, rfl, upd_same, .int b, .int n, .inr (.inr ⟨b, n, rfl, rfl, hb, fun G hx ex => ⟨rfl, q G x (fun c o h => ex c o (ne_of_none h nx) (s c o h)) nx hx⟩⟩)⟩

def sp_check_mixing (K : Frag) : Sp := fun vs H Q E => ∃ (x : V) (k : Kn), vs = [x] ∧ Is K H x k ∧ (∀ a D, k = .ins a D → D = ga K "Mixing") ∧ (k.isC (ga K "Mixing") = true → Q .non H) ∧ (k.isC (ga K "Mixing") = false → Out1 K E H "InvalidMixing" "value" x)
theorem sc_check_mixing : FnScope ["value"] ["value"] (defScope s_check_mixing) := ⟨rfl, rfl, rfl, by decide +kernel, rfl, by decide +kernel, by decide +kernel⟩
theorem ok_check_mixing {P : Program} {w : World} {K : Frag} {mg : Str → Option Value} {base : Heap} (T : Txt K mg) : FnB P w K mg base 3 (glA "check_mixing" K) (sp_check_mixing K) := by
  refine okD (N := ["value"]) (ps := ["value"]) (k := 2) (d := g_check_mixing) T.d_check_mixing rfl sc_check_mixing (fun vs H Q E h => ?_) (fun _ _ _ _ _ _ us hl => match us, hl with | [_], _ => rfl) (fun A outer s H vs Q E hr h => ?_)
  · obtain ⟨x, k, rfl, hx, hk, q, o⟩ := h
    rfl
  · have hu := hr.hu
    obtain ⟨x, k, rfl, hx, hk, q, o⟩ := h
    refine ⟨_, (pss_one (ps_if (pt_not (pt_val (pe_callB call_isi (by rfl) T.b_isinstance (by decide +kernel) (pa_cons (pv 0) (pa_cons (pe_gc (v := .ref (ga K "Mixing")) (by rfl) ⟨_, T.m_Mixing, rfl⟩) pa_nil)))))
        (pss_one (ps_raiseC rfl (takes_of rfl rfl rfl rfl) T.r_InvalidMixing (ok_InvalidMixing_init (K := K) T) hr (pa_cons (pv 0) pa_nil)))
        pss_nil)), ?_⟩
    walk_at "nm"
    refine isiC hx T.q_Mixing (fun a D e hn => absurd (hk a D e) hn) ?_
    walk_at "nm"
    cases e : k.isC (ga K "Mixing") with
    | true =>
      rw [if_neg (by decide)]
      exact q e
    | false =>
      rw [if_pos rfl]
      exact (o e).mk fun Q' q' => ⟨_, rfl, q'⟩

/-- a letter -/
def lett (c : Nat) : Bool := decide (97 ≤ c) && decide (c ≤ 122)
def isNameL (l : List Nat) : Bool := decide (1 ≤ l.length) && decide (l.length ≤ 8) && l.all lett
def _root_.Ah.Kn.isName : Kn → Bool
  | .str z => isNameL z.cps.toList
  | _ => false
theorem lett_mem (c : Nat) : decide (c ∈ (Str.ofString "abcdefghijklmnopqrstuvwxyz").cps.toList) = lett c := by
  have e : (Str.ofString "abcdefghijklmnopqrstuvwxyz").cps.toList = [97, 98, 99, 100, 101, 102, 103, 104, 105, 106, 107, 108, 109, 110, 111, 112, 113, 114, 115, 116, 117, 118, 119, 120, 121, 122] := by decide +kernel
  rw [e]
  unfold lett
  by_cases h : 97 ≤ c ∧ c ≤ 122
  · rw [decide_eq_true h.1, decide_eq_true h.2]
    simp
    omega
  · have : ¬ c ∈ [97, 98, 99, 100, 101, 102, 103, 104, 105, 106, 107, 108, 109, 110, 111, 112, 113, 114, 115, 116, 117, 118, 119, 120, 121, 122] := fun z => by simp at z; omega
    rw [decide_eq_false this]
    by_cases h1 : 97 ≤ c
    · rw [decide_eq_false (show ¬ c ≤ 122 by omega)]
      simp
    · rw [decide_eq_false h1]
      simp
/-- the first name that is none, or stands before -/
def badFrom (pre : List V) (i : Nat) : List V → List Kn → Option Nat
  | u :: us, k :: ks => if k.isName = false ∨ u ∈ pre then some i else badFrom (pre ++ [u]) (i + 1) us ks
  | _, _ => none
def firstBad (us : List V) (ks : List Kn) : Option Nat := badFrom [] 0 us ks
theorem strOk_name {z : Str} (h : isNameL z.cps.toList = true) : PyData.strOk z = true := by
  unfold isNameL at h
  have h3 := (Bool.and_eq_true_iff.mp h).2
  unfold PyData.strOk
  rw [← Array.all_toList]
  refine List.all_eq_true.mpr fun c hc => ?_
  have := List.all_eq_true.mp h3 c hc
  unfold lett at this
  simp at this
  exact decide_eq_true (by omega)
theorem canLayZ : ∀ {zs : List Str}, (∀ z ∈ zs, PyData.strOk z = true) → PyData.canLayAll0 (zs.map PyData.str) = true
  | [], _ => rfl
  | z :: zs, h => by
    refine Bool.and_eq_true_iff.mpr ⟨?_, canLayZ fun q hq => h q (List.mem_cons_of_mem _ hq)⟩
    exact h z (List.mem_cons_self)
theorem depthZ : ∀ zs : List Str, PyData.depthAll (zs.map PyData.str) = 0
  | [] => rfl
  | z :: zs => by
    show max 0 (PyData.depthAll (zs.map PyData.str)) = 0
    rw [depthZ zs]
    rfl
theorem shapedZ {zs : List Str} (h : ∀ z ∈ zs, PyData.strOk z = true) : SeqAt.shaped (.list (zs.map PyData.str)) = true := by
  refine Bool.and_eq_true_iff.mpr ⟨canLayZ h, decide_eq_true ?_⟩
  show PyData.depthAll (zs.map PyData.str) + 1 ≤ 64
  rw [depthZ]
  decide
theorem dpZ {K : Frag} {H : Hp} : ∀ zs : List Str, DpAll K H (zs.map V.str) (zs.map PyData.str)
  | [] => .nil
  | z :: zs => .cons (.str z) (dpZ zs)
theorem anyZ (u : Str) : ∀ zs : List Str, ((zs.map PyData.str).any fun z => PyData.eqv z (.str u)) = decide (V.str u ∈ zs.map V.str)
  | [] => by simp
  | z :: zs => by
    rw [List.map_cons, List.any_cons, anyZ u zs, List.map_cons]
    have e : PyData.eqv (.str z) (.str u) = decide (z = u) := by
      simp only [PyData.eqv]
      exact Bool.eq_iff_iff.mpr (by simp)
    rw [e]
    by_cases h : z = u
    · subst h
      simp
    · rw [decide_eq_false h, Bool.false_or]
      have : ¬ V.str u = V.str z := fun q => h (by cases q; rfl)
      simp [this]

def sp_is_name (K : Frag) : Sp := fun vs H Q _ => ∃ x k, vs = [x] ∧ Is K H x k ∧ k.small ∧ ∀ H', Same H H' → Q (.bl k.isName) H'
theorem sc_is_name : FnScope ["value", "sign"] ["value"] (defScope s_is_name) := ⟨rfl, rfl, rfl, by decide +kernel, rfl, by decide +kernel, by decide +kernel⟩
theorem ok_is_name {P : Program} {w : World} {K : Frag} {mg : Str → Option Value} {base : Heap} (T : Txt K mg) : FnB P w K mg base 1 (glA "is_name" K) (sp_is_name K) := by
  refine okD (N := ["value", "sign"]) (ps := ["value"]) (k := 0) (d := g_is_name) T.d_is_name rfl sc_is_name (fun vs H Q E h => ?_) (fun _ _ _ _ _ _ us hl => match us, hl with | [_], _ => rfl) (fun A outer s H vs Q E hr h => ?_)
  · obtain ⟨x, k, rfl, hx, hs, q⟩ := h
    rfl
  · have hu := hr.hu
    obtain ⟨x, k, rfl, hx, hs, q⟩ := h
    refine ⟨_, PSs.nox ((pss_cons (ps_if (PW.pt (pw_or (pt_not (pt_val (pe_callB call_isi (by rfl) T.b_isinstance (by decide +kernel) (pa_cons (pv 0) (pa_cons (pe_bltn (v := .ty "str") (u := .type "str") (by rfl) T.b_str (by decide +kernel) rfl) pa_nil))))) (pw_or1 (pt_not (pt_chain op_le op_le pe_int (pe_callB call_len_str (by rfl) T.b_len (by decide +kernel) (pa_cons (pv 0) pa_nil)) (pe_gc (by rfl) (gint T.v_MAX_NAME)))))))
        (pss_one (ps_ret pe_bl))
        pss_nil)
      (pss_one (ps_ret (pe_callB (cr_all rfl) (by rfl) T.b_all (by decide +kernel) (pa_cons (pe_lc (own := [("sign", 1)]) (g := gName 1) rfl sc_is_name.nd (pi_str (pv 0)) (blkOk_by (N := ["value", "sign"]) (sc := defScope s_is_name) (by decide +kernel)) (fun _ _ _ _ _ => pg_name (i := 1) sc_is_name.nd rfl (Or.inl rfl)) (fun _ _ _ _ _ => pts_nil) (fun _ _ _ _ _ => (pe_cmpR op_in_sign (pv 1) (pe_gc (by rfl) (gstr T.v_LETTERS)) (by rfl)))) pa_nil)))))), ?_⟩
    walk_at "nm"
    refine isi "str" hx ?_
    walk_at "nm"
    cases hx with
    | str z =>
      rw [if_neg (by simp [Kn.isT])]
      have hz : z.length ≤ 1000000 := hs
      refine ⟨z, rfl, (by rw [sizeLine_eq]; omega), ?_⟩
      have q' : ∀ b, b = isNameL z.cps.toList → ∀ H', Same H H' → Q (.bl b) H' := fun b e H' s => by rw [e]; exact q H' s
      have hl := str_len z
      by_cases h1 : (1 : Int) ≤ (z.length : Int)
      · rw [if_pos h1]
        by_cases h2 : (z.length : Int) ≤ 8
        · rw [if_neg (by omega)]
          refine ⟨_, rfl, _, rfl, fun D hD => ?_⟩
          refine lc_pure walk_str (f := fun i => .bl (lett (z.cps.toList.getD i 0))) (it := fun i => .str ⟨#[z.cps.toList.getD i 0]⟩) (by rw [cps_len]; omega) hD (fun _ _ => trivial) (fun i H x H' _ y => yStr i H x H' y) (by intro i; rfl) ?_ ?_
          · intro i hi H' Q' s k
            refine ⟨_, rfl, _, rfl, _, rfl, ?_⟩
            have e := lett_mem (z.cps.toList.getD i 0)
            rw [e]
            exact k H' (Same.refl _)
          · intro H' s hl'
            rw [cps_len, map_getD_range z.cps.toList 0 (fun c => V.bl (lett c))] at hl'
            refine ⟨D, z.cps.toList.map lett, rfl, SqL.of (by rw [hl', List.map_map]; rfl), ?_⟩
            refine q' _ ?_ H' s
            unfold isNameL
            rw [decide_eq_true (by omega), decide_eq_true (by omega), List.all_map]
            rfl
        · rw [if_pos (by omega)]
          refine q' _ ?_ H (Same.refl _)
          unfold isNameL
          rw [decide_eq_false (p := z.cps.toList.length ≤ 8) (by omega)]
          simp
      · rw [if_neg h1]
        refine q' _ ?_ H (Same.refl _)
        unfold isNameL
        rw [decide_eq_false (p := 1 ≤ z.cps.toList.length) (by omega)]
        simp
    | _ =>
      rw [if_pos (by simp [Kn.isT])]
      exact q H (Same.refl _)

def sp_is_positive (K : Frag) : Sp := fun vs H Q _ => ∃ x k, vs = [x] ∧ Is K H x k ∧ Q (.bl (k.least 1)) H
theorem sc_is_positive : FnScope ["value"] ["value"] (defScope s_is_positive) := ⟨rfl, rfl, rfl, by decide +kernel, rfl, by decide +kernel, by decide +kernel⟩
theorem ok_is_positive {P : Program} {w : World} {K : Frag} {mg : Str → Option Value} {base : Heap} (T : Txt K mg) : FnB P w K mg base 2 (glA "is_positive" K) (sp_is_positive K) := by
  refine okD (N := ["value"]) (ps := ["value"]) (k := 1) (d := g_is_positive) T.d_is_positive rfl sc_is_positive (fun vs H Q E h => ?_) (fun _ _ _ _ _ _ us hl => match us, hl with | [_], _ => rfl) (fun A outer s H vs Q E hr h => ?_)
  · obtain ⟨x, k, rfl, hx, q⟩ := h
    rfl
  · have hu := hr.hu
    obtain ⟨x, k, rfl, hx, q⟩ := h
    refine ⟨_, PSs.nox ((pss_one (ps_ret (pe_and (pe_cF (ok_is_integer (K := K) T) hr T.m_is_integer passL (pa_cons (pv 0) pa_nil)) (pe_one (pe_cmpR op_ge (pv 0) pe_int (nomark _))))))), ?_⟩
    walk_at "nm"
    refine ⟨x, k, rfl, hx, ?_⟩
    rw [isInt_eq]
    walk_at "nm"
    cases hx with
    | int i =>
      rw [if_pos (by rfl)]
      exact ⟨i, rfl, q⟩
    | _ => exact iteF q

def sp_is_count (K : Frag) : Sp := fun vs H Q _ => ∃ x k, vs = [x] ∧ Is K H x k ∧ Q (.bl (k.least 0)) H
theorem sc_is_count : FnScope ["value"] ["value"] (defScope s_is_count) := ⟨rfl, rfl, rfl, by decide +kernel, rfl, by decide +kernel, by decide +kernel⟩
theorem ok_is_count {P : Program} {w : World} {K : Frag} {mg : Str → Option Value} {base : Heap} (T : Txt K mg) : FnB P w K mg base 2 (glA "is_count" K) (sp_is_count K) := by
  refine okD (N := ["value"]) (ps := ["value"]) (k := 1) (d := g_is_count) T.d_is_count rfl sc_is_count (fun vs H Q E h => ?_) (fun _ _ _ _ _ _ us hl => match us, hl with | [_], _ => rfl) (fun A outer s H vs Q E hr h => ?_)
  · obtain ⟨x, k, rfl, hx, q⟩ := h
    rfl
  · have hu := hr.hu
    obtain ⟨x, k, rfl, hx, q⟩ := h
    refine ⟨_, PSs.nox ((pss_one (ps_ret (pe_and (pe_cF (ok_is_integer (K := K) T) hr T.m_is_integer passL (pa_cons (pv 0) pa_nil)) (pe_one (pe_cmpR op_ge (pv 0) pe_int (nomark _))))))), ?_⟩
    walk_at "nm"
    refine ⟨x, k, rfl, hx, ?_⟩
    rw [isInt_eq]
    walk_at "nm"
    cases hx with
    | int i =>
      rw [if_pos (by rfl)]
      exact ⟨i, rfl, q⟩
    | _ => exact iteF q

/-- until, behind since -/
def untilOk : Kn → Kn → Bool
  | .non, _ => true
  | .int u, .int s => decide (s < u)
  | _, _ => false
/-- is_period of six parts, by their kinds -/
def prK (A : Addr) (k0 k1 k2 k3 k4 k5 : Kn) : Bool := k1.isC A && (k0.least 1 && (k2.isName && (k3.least 1 && (k4.least 0 && untilOk k5 k4))))
inductive PrV (K : Frag) (H : Hp) : V → Bool → Prop
  | no {x : V} {k : Kn} (h : Is K H x k) (hk : k.isT "tuple" = false) : PrV K H x false
  | len {a : Addr} {l : List V} (e : H a = some (.tup l)) (hl : l.length ≠ 6) (hm : l.length ≤ 1000) : PrV K H (.ref a) false
  | six {a : Addr} {u0 u1 u2 u3 u4 u5 : V} {k0 k1 k2 k3 k4 k5 : Kn} (e : H a = some (.tup [u0, u1, u2, u3, u4, u5])) (h0 : Is K H u0 k0) (h1 : Is K H u1 k1) (h2 : Is K H u2 k2) (h3 : Is K H u3 k3) (h4 : Is K H u4 k4) (h5 : Is K H u5 k5)
      (hD : ∀ a D, k1 = .ins a D → D = ga K "Arc") (hs : k2.small) : PrV K H (.ref a) (prK (ga K "Arc") k0 k1 k2 k3 k4 k5)
theorem PrV.same {K : Frag} {H H' : Hp} {x : V} {b : Bool} (h : PrV K H x b) (s : Same H H') : PrV K H' x b := by
  cases h with
  | no h hk => exact .no (h.same s) hk
  | len e hl hm => exact .len (s _ _ e) hl hm
  | six e h0 h1 h2 h3 h4 h5 hD hs => exact .six (s _ _ e) (h0.same s) (h1.same s) (h2.same s) (h3.same s) (h4.same s) (h5.same s) hD hs

def sp_is_period (K : Frag) : Sp := fun vs H Q _ => ∃ x b, vs = [x] ∧ PrV K H x b ∧ ∀ H', Same H H' → Q (.bl b) H'
theorem sc_is_period : FnScope ["value", "number", "arc", "owner", "epoch", "since", "until"] ["value"] (defScope s_is_period) := ⟨rfl, rfl, rfl, by decide +kernel, rfl, by decide +kernel, by decide +kernel⟩
theorem ok_is_period {P : Program} {w : World} {K : Frag} {mg : Str → Option Value} {base : Heap} (T : Txt K mg) : FnB P w K mg base 3 (glA "is_period" K) (sp_is_period K) := by
  refine okD (N := ["value", "number", "arc", "owner", "epoch", "since", "until"]) (ps := ["value"]) (k := 2) (d := g_is_period) T.d_is_period rfl sc_is_period (fun vs H Q E h => ?_) (fun _ _ _ _ _ _ us hl => match us, hl with | [_], _ => rfl) (fun A outer s H vs Q E hr h => ?_)
  · obtain ⟨x, b, rfl, hx, q⟩ := h
    rfl
  · have hu := hr.hu
    obtain ⟨x, b, rfl, hx, q⟩ := h
    refine ⟨_, PSs.nox ((pss_cons (ps_if (PW.pt (pw_or (pt_not (pt_val (pe_callB call_isi (by rfl) T.b_isinstance (by decide +kernel) (pa_cons (pv 0) (pa_cons (pe_bltn (v := .ty "tuple") (u := .type "tuple") (by rfl) T.b_tuple (by decide +kernel) rfl) pa_nil))))) (pw_or (pt_cmpR op_ne (pe_callB call_len_seq (by rfl) T.b_len (by decide +kernel) (pa_cons (pv 0) pa_nil)) pe_int (nomark _)) (pw_or1 (pt_not (pt_val (pe_callB call_isi (by rfl) T.b_isinstance (by decide +kernel) (pa_cons (pe_ix ix_tup (pv 0) pe_int (fun _ _ => rfl)) (pa_cons (pe_gc (v := .ref (ga K "Arc")) (by rfl) ⟨_, T.m_Arc, rfl⟩) pa_nil)))))))))
        (pss_one (ps_ret pe_bl))
        pss_nil)
      (pss_cons (ps_asg (pv 0) (pg_tup (n := 6) (by rfl) (pgs_cons (pg_name (i := 1) sc_is_period.nd rfl (Or.inl rfl)) (pgs_cons (pg_name (i := 2) sc_is_period.nd rfl (Or.inl rfl)) (pgs_cons (pg_name (i := 3) sc_is_period.nd rfl (Or.inl rfl)) (pgs_cons (pg_name (i := 4) sc_is_period.nd rfl (Or.inl rfl)) (pgs_cons (pg_name (i := 5) sc_is_period.nd rfl (Or.inl rfl)) (pgs_cons (pg_name (i := 6) sc_is_period.nd rfl (Or.inl rfl)) pgs_nil))))))))
      (pss_cons (ps_if (PW.pt (pw_or (pt_not (pt_val (pe_cF (ok_is_positive (K := K) T) hr T.m_is_positive passL (pa_cons (pv 1) pa_nil)))) (pw_or (pt_not (pt_val (pe_cF (ok_is_name (K := K) T) hr T.m_is_name passL (pa_cons (pv 3) pa_nil)))) (pw_or (pt_not (pt_val (pe_cF (ok_is_positive (K := K) T) hr T.m_is_positive passL (pa_cons (pv 4) pa_nil)))) (pw_or1 (pt_not (pt_val (pe_cF (ok_is_count (K := K) T) hr T.m_is_count passL (pa_cons (pv 5) pa_nil)))))))))
        (pss_one (ps_ret pe_bl))
        pss_nil)
      (pss_one (ps_ret (pe_or (pe_cmpR op_isN (pv 6) pe_non (nomark _)) (pe_one (pe_and (pe_cF (ok_is_integer (K := K) T) hr T.m_is_integer passL (pa_cons (pv 6) pa_nil)) (pe_one (pe_cmpR op_gt (pv 6) (pv 5) (nomark _)))))))))))), ?_⟩
    walk_at "nm"
    cases hx with
    | no h hk =>
      refine isi "tuple" h ⟨_, rfl, ?_⟩
      rw [hk, if_pos rfl]
      exact q H (Same.refl _)
    | @len a l e hl hm =>
      refine isi "tuple" (.tup e) ⟨_, rfl, ?_⟩
      rw [if_neg (by simp [Kn.isT])]
      refine ⟨a, rfl, _, .inr (SqT.of e), rfl, _, rfl, ?_⟩
      rw [if_pos (by
        have : ¬ V.int (l.length : Nat) = V.int 6 := fun z => hl (by have := V.int.inj z; omega)
        simp [this])]
      exact q H (Same.refl _)
    | @six a u0 u1 u2 u3 u4 u5 k0 k1 k2 k3 k4 k5 e h0 h1 h2 h3 h4 h5 hD hs =>
      refine isi "tuple" (.tup e) ⟨_, rfl, ?_⟩
      rw [if_neg (by simp [Kn.isT])]
      refine ⟨a, rfl, _, .inr (SqT.of e), rfl, _, rfl, ?_⟩
      rw [if_neg (by simp)]
      refine ixT (SqT.of e) rfl ?_
      refine isiC h1 T.q_Arc (fun a D e hn => absurd (hD a D e) hn) ⟨_, rfl, ?_⟩
      have q' : ∀ b, b = prK (ga K "Arc") k0 k1 k2 k3 k4 k5 → ∀ H', Same H H' → Q (.bl b) H' := fun b e H' s => by rw [e]; exact q H' s
      cases c1 : k1.isC (ga K "Arc") with
      | false =>
        rw [if_pos rfl]
        exact q' _ (by simp [prK, c1]) H (Same.refl _)
      | true =>
        rw [if_neg (by decide)]
        refine ⟨a, _, rfl, SqT.of e, rfl, _, _, rfl, _, _, rfl, _, _, rfl, _, _, rfl, _, _, rfl, _, _, rfl, rfl, ?_⟩
        walk_at "nm"
        refine ⟨u0, k0, rfl, h0, _, rfl, ?_⟩
        cases c0 : k0.least 1 with
        | false =>
          rw [if_pos rfl]
          exact q' _ (by simp [prK, c1, c0]) H (Same.refl _)
        | true =>
        rw [if_neg (by decide)]
        refine ⟨u2, k2, rfl, h2, hs, fun H1 s1 => ⟨_, rfl, ?_⟩⟩
        cases c2 : k2.isName with
        | false =>
          rw [if_pos rfl]
          exact q' _ (by simp [prK, c1, c0, c2]) H1 s1
        | true =>
        rw [if_neg (by decide)]
        refine ⟨u3, k3, rfl, h3.same s1, _, rfl, ?_⟩
        cases c3 : k3.least 1 with
        | false =>
          rw [if_pos rfl]
          exact q' _ (by simp [prK, c1, c0, c2, c3]) H1 s1
        | true =>
        rw [if_neg (by decide)]
        refine ⟨u4, k4, rfl, h4.same s1, _, rfl, ?_⟩
        cases c4 : k4.least 0 with
        | false =>
          rw [if_pos rfl]
          exact q' _ (by simp [prK, c1, c0, c2, c3, c4]) H1 s1
        | true =>
        rw [if_neg (by decide)]
        obtain ⟨sn, rfl⟩ : ∃ sn, k4 = .int sn := by
          cases k4 <;> first | exact ⟨_, rfl⟩ | (exfalso; revert c4; simp [Kn.least])
        cases h4
        have fin : ∀ b, b = untilOk k5 (.int sn) → Q (.bl b) H1 := fun b e => q' b (by rw [e]; simp [prK, c1, c0, c2, c3, c4]) H1 s1
        cases h5 with
        | non =>
          rw [if_pos rfl]
          exact fin _ rfl
        | int i =>
          rw [if_neg (fun z => by cases z)]
          refine ⟨_, .int i, rfl, .int i, _, rfl, ?_⟩
          rw [if_pos (by rfl)]
          exact ⟨i, rfl, sn, rfl, fin _ rfl⟩
        | bl b =>
          rw [if_neg (fun z => by cases z)]
          refine ⟨_, .bl b, rfl, .bl b, _, rfl, ?_⟩
          rw [if_neg (by simp [Kn.isT])]
          exact fin _ rfl
        | str z =>
          rw [if_neg (fun z => by cases z)]
          refine ⟨_, .str z, rfl, .str z, _, rfl, ?_⟩
          rw [if_neg (by simp [Kn.isT])]
          exact fin _ rfl
        | lst e5 =>
          rw [if_neg (fun z => by cases z)]
          refine ⟨_, _, rfl, .lst (s1 _ _ e5), _, rfl, ?_⟩
          rw [if_neg (by simp [Kn.isT])]
          exact fin _ rfl
        | tup e5 =>
          rw [if_neg (fun z => by cases z)]
          refine ⟨_, _, rfl, .tup (s1 _ _ e5), _, rfl, ?_⟩
          rw [if_neg (by simp [Kn.isT])]
          exact fin _ rfl
        | dct e5 =>
          rw [if_neg (fun z => by cases z)]
          refine ⟨_, _, rfl, .dct (s1 _ _ e5), _, rfl, ?_⟩
          rw [if_neg (by simp [Kn.isT])]
          exact fin _ rfl
        | ins e5 c5 =>
          rw [if_neg (fun z => by cases z)]
          refine ⟨_, _, rfl, .ins (s1 _ _ e5) c5, _, rfl, ?_⟩
          rw [if_neg (by simp [Kn.isT])]
          exact fin _ rfl

def sp_check_store (K : Frag) : Sp := fun vs H Q E => ∃ (x : V) (k : Kn), vs = [x] ∧ Is K H x k ∧ (∀ a D, k = .ins a D → D = ga K "Store") ∧ (k.isC (ga K "Store") = true → Q .non H) ∧ (k.isC (ga K "Store") = false → Out1 K E H "InvalidStore" "value" x)
theorem sc_check_store : FnScope ["value"] ["value"] (defScope s_check_store) := ⟨rfl, rfl, rfl, by decide +kernel, rfl, by decide +kernel, by decide +kernel⟩
theorem ok_check_store {P : Program} {w : World} {K : Frag} {mg : Str → Option Value} {base : Heap} (T : Txt K mg) : FnB P w K mg base 3 (glA "check_store" K) (sp_check_store K) := by
  refine okD (N := ["value"]) (ps := ["value"]) (k := 2) (d := g_check_store) T.d_check_store rfl sc_check_store (fun vs H Q E h => ?_) (fun _ _ _ _ _ _ us hl => match us, hl with | [_], _ => rfl) (fun A outer s H vs Q E hr h => ?_)
  · obtain ⟨x, k, rfl, hx, hk, q, o⟩ := h
    rfl
  · have hu := hr.hu
    obtain ⟨x, k, rfl, hx, hk, q, o⟩ := h
    refine ⟨_, (pss_one (ps_if (pt_not (pt_val (pe_callB call_isi (by rfl) T.b_isinstance (by decide +kernel) (pa_cons (pv 0) (pa_cons (pe_gc (v := .ref (ga K "Store")) (by rfl) ⟨_, T.m_Store, rfl⟩) pa_nil)))))
        (pss_one (ps_raiseC rfl (takes_of rfl rfl rfl rfl) T.r_InvalidStore (ok_InvalidStore_init (K := K) T) hr (pa_cons (pv 0) pa_nil)))
        pss_nil)), ?_⟩
    walk_at "nm"
    refine isiC hx T.q_Store (fun a D e hn => absurd (hk a D e) hn) ?_
    walk_at "nm"
    cases e : k.isC (ga K "Store") with
    | true =>
      rw [if_neg (by decide)]
      exact q e
    | false =>
      rw [if_pos rfl]
      exact (o e).mk fun Q' q' => ⟨_, rfl, q'⟩

def sp_check_records (K : Frag) : Sp := fun vs H Q E => ∃ (x : V) (k : Kn), vs = [x] ∧ Is K H x k ∧ (∀ a D, k = .ins a D → D = ga K "Records") ∧ (k.isC (ga K "Records") = true → Q .non H) ∧ (k.isC (ga K "Records") = false → Out1 K E H "InvalidRecords" "position" .non)
theorem sc_check_records : FnScope ["value"] ["value"] (defScope s_check_records) := ⟨rfl, rfl, rfl, by decide +kernel, rfl, by decide +kernel, by decide +kernel⟩
theorem ok_check_records {P : Program} {w : World} {K : Frag} {mg : Str → Option Value} {base : Heap} (T : Txt K mg) : FnB P w K mg base 3 (glA "check_records" K) (sp_check_records K) := by
  refine okD (N := ["value"]) (ps := ["value"]) (k := 2) (d := g_check_records) T.d_check_records rfl sc_check_records (fun vs H Q E h => ?_) (fun _ _ _ _ _ _ us hl => match us, hl with | [_], _ => rfl) (fun A outer s H vs Q E hr h => ?_)
  · obtain ⟨x, k, rfl, hx, hk, q, o⟩ := h
    rfl
  · have hu := hr.hu
    obtain ⟨x, k, rfl, hx, hk, q, o⟩ := h
    refine ⟨_, (pss_one (ps_if (pt_not (pt_val (pe_callB call_isi (by rfl) T.b_isinstance (by decide +kernel) (pa_cons (pv 0) (pa_cons (pe_gc (v := .ref (ga K "Records")) (by rfl) ⟨_, T.m_Records, rfl⟩) pa_nil)))))
        (pss_one (ps_raiseC rfl (takes_of rfl rfl rfl rfl) T.r_InvalidRecords (ok_InvalidRecords_init (K := K) T) hr (pa_cons pe_non pa_nil)))
        pss_nil)), ?_⟩
    walk_at "nm"
    refine isiC hx T.q_Records (fun a D e hn => absurd (hk a D e) hn) ?_
    walk_at "nm"
    cases e : k.isC (ga K "Records") with
    | true =>
      rw [if_neg (by decide)]
      exact q e
    | false =>
      rw [if_pos rfl]
      exact (o e).mk fun Q' q' => q'

/-- one of the values is no period, the ones before it are -/
def OddPr (K : Frag) (H : Hp) (us : List V) (j : Nat) : Prop := (∃ v, us[j]? = some v ∧ PrV K H v false) ∧ ∀ i < j, ∃ u, us[i]? = some u ∧ PrV K H u true
theorem OddPr.same {K : Frag} {H H' : Hp} {us : List V} {j : Nat} (h : OddPr K H us j) (s : Same H H') : OddPr K H' us j := by
  obtain ⟨⟨v, e, p⟩, g⟩ := h
  exact ⟨⟨v, e, p.same s⟩, fun i hi => let ⟨u, e, p⟩ := g i hi; ⟨u, e, p.same s⟩⟩
def sp_Records_init (K : Frag) : Sp := fun vs H Q E => ∃ (x dx : Addr) (u v : V) (ku kv : Kn), vs = [.ref x, u, v] ∧ H x = some (.ins (ga K "Records") dx []) ∧ Is K H u ku ∧ (∀ a D, ku = .ins a D → D = ga K "Mixing") ∧ Is K H v kv ∧
  ((ku.isC (ga K "Mixing") = false ∧ Out1 K E H "InvalidMixing" "value" u) ∨
   (ku.isC (ga K "Mixing") = true ∧ kv.isT "list" = false ∧ Out1 K E H "InvalidRecords" "position" .non) ∨
   (ku.isC (ga K "Mixing") = true ∧ ∃ (l : Addr) (us : List V) (j : Nat), v = .ref l ∧ H l = some (.lst us) ∧ us.length ≤ 1000 ∧ OddPr K H us j ∧ Out1 K E H "InvalidRecords" "position" (.int (j : Nat))) ∨
   (ku.isC (ga K "Mixing") = true ∧ ∃ (l : Addr), v = .ref l ∧ H l = some (.lst []) ∧ ∀ H' P, H' x = some (.ins (ga K "Records") dx [("own_mixing", u), ("own_periods", .ref P)]) → H' P = some (.lst []) → Ex x H H' → H P = none → Q .non H'))
theorem sc_Records_init : FnScope ["self", "mixing", "periods", "position", "period"] ["self", "mixing", "periods"] (defScope s_Records_init) := ⟨rfl, rfl, rfl, by decide +kernel, rfl, by decide +kernel, by decide +kernel⟩
theorem ok_Records_init {P : Program} {w : World} {K : Frag} {mg : Str → Option Value} {base : Heap} (T : Txt K mg) : FnB P w K mg base 4 (mtA "Records" "__init__" K) (sp_Records_init K) := by
  refine okD (N := ["self", "mixing", "periods", "position", "period"]) (ps := ["self", "mixing", "periods"]) (k := 3) (d := g_Records_init) T.d_Records_init rfl sc_Records_init (fun vs H Q E h => ?_) (fun _ _ _ _ _ _ us hl => match us, hl with | [_, _, _], _ => rfl) (fun A outer s H vs Q E hr h => ?_)
  · obtain ⟨x, dx, u, v, ku, kv, rfl, hx, hu', hD, hv, q⟩ := h
    rfl
  · have hu := hr.hu
    obtain ⟨x, dx, u, v, ku, kv, rfl, hx, hu', hD, hv, q⟩ := h
    refine ⟨_, (pss_cons (ps_expr (pe_cF (ok_check_mixing (K := K) T) hr T.m_check_mixing (passes_call (takes_of rfl rfl rfl rfl) (fun _ _ _ _ h => h)) (pa_cons (pv 1) pa_nil)))
      (pss_cons (ps_if (pt_not (pt_val (pe_callB call_isi (by rfl) T.b_isinstance (by decide +kernel) (pa_cons (pv 2) (pa_cons (pe_bltn (v := .ty "list") (u := .type "list") (by rfl) T.b_list (by decide +kernel) rfl) pa_nil)))))
        (pss_one (ps_raiseC rfl (takes_of rfl rfl rfl rfl) T.r_InvalidRecords (ok_InvalidRecords_init (K := K) T) hr (pa_cons pe_non pa_nil)))
        pss_nil)
      (pss_cons (ps_for (passes_of rfl) rfl (pi_enum (by rfl) T.b_enumerate (pa_cons (pv 2) pa_nil)) (pg_tup (n := 2) (by rfl) (pgs_cons (pg_name (i := 3) sc_Records_init.nd rfl (Or.inl rfl)) (pgs_cons (pg_name (i := 4) sc_Records_init.nd rfl (Or.inl rfl)) pgs_nil)))
        (pss_one (ps_if (pt_not (pt_val (pe_cF (ok_is_period (K := K) T) hr T.m_is_period passL (pa_cons (pv 4) pa_nil))))
          (pss_one (ps_raiseC rfl (takes_of rfl rfl rfl rfl) T.r_InvalidRecords (ok_InvalidRecords_init (K := K) T) hr (pa_cons (pv 3) pa_nil)))
          pss_nil)))
      (pss_cons (ps_fld (pv 0) (pv 1) rfl)
      (pss_one (ps_fld (pv 0) (pe_callTy call_list_of (by rfl) T.b_list (by decide +kernel) (pa_cons (pv 2) pa_nil)) rfl)))))), ?_⟩
    walk_at "nm"
    rcases q with ⟨e, o⟩ | ⟨e, e2, o⟩ | ⟨e, l, us, j, rfl, hl, few, hj, o⟩ | ⟨e, l, rfl, hl, q⟩
    · exact ⟨_, ku, rfl, hu', hD, (fun z => by rw [e] at z; cases z), fun _ => o⟩
    · refine ⟨_, ku, rfl, hu', hD, (fun _ => ?_), fun z => by rw [e] at z; cases z⟩
      refine isi "list" hv ⟨_, rfl, ?_⟩
      rw [e2, if_pos rfl]
      exact o.mk fun Q' q' => q'
    · refine ⟨_, ku, rfl, hu', hD, (fun _ => ?_), fun z => by rw [e] at z; cases z⟩
      refine isi "list" (.lst hl) ⟨_, rfl, ?_⟩
      rw [if_neg (by simp [Kn.isT])]
      refine ⟨_, rfl, l, us, rfl, SqL.of hl, for_it walk_enum (fun i σ H' => ∃ v1 v2, σ = [some (.ref x), some u, some (.ref l), v1, v2] ∧ Same H H' ∧ i ≤ j) ⟨none, none, rfl, Same.refl _, Nat.zero_le _⟩ (fun i σ H' _ h => SqL.of (h.choose_spec.choose_spec.2.1 _ _ hl)) ?_ ?_⟩
      · rintro i y σ H1 H2 hi ⟨v1, v2, rfl, s1, hij⟩ ⟨Tt, y1, y2, rfl, nT, rfl, e1, e2⟩
        obtain ⟨w, hw⟩ : ∃ w, us[i]? = some w := ⟨us[i], List.getElem?_eq_getElem hi⟩
        dsimp only at e1 e2
        rw [hw] at e2
        obtain rfl : y1 = V.int (i : Nat) := (Option.some.inj e1).symm
        obtain rfl : w = y2 := Option.some.inj e2
        generalize hg : upd H1 Tt _ = G
        have s2 := s1.trans (sameOf nT hg)
        have eT := atOf hg
        clear hg
        refine ⟨Tt, _, rfl, SqT.of eT, rfl, ?_⟩
        dsimp only [gCons, gNil]
        refine ⟨_, _, rfl, ?_⟩
        dsimp only [gName]
        refine ⟨_, _, rfl, ?_⟩
        walk_at "nm"
        by_cases ej : i = j
        · obtain ⟨⟨v', ev, pv⟩, _⟩ := hj
          subst ej
          rw [hw] at ev
          cases ev
          refine ⟨_, false, rfl, pv.same s2, fun G1 s3 => ⟨_, rfl, ?_⟩⟩
          rw [if_pos rfl]
          exact (o.same (s2.trans s3)).mk fun Q' q' => ⟨_, rfl, q'⟩
        · obtain ⟨_, hg⟩ := hj
          obtain ⟨w', e', p'⟩ := hg i (by omega)
          rw [hw] at e'
          cases e'
          refine ⟨_, true, rfl, p'.same s2, fun G1 s3 => ⟨_, rfl, ?_⟩⟩
          rw [if_neg (by decide)]
          exact ⟨_, _, ⟨rfl, rfl⟩, s2.trans s3, by omega⟩
      · rintro σ H1 ⟨v1, v2, rfl, s1, hij⟩
        exfalso
        obtain ⟨⟨v', ev, _⟩, _⟩ := hj
        have := (List.getElem?_eq_some_iff.mp ev).1
        omega
    · refine ⟨_, ku, rfl, hu', hD, (fun _ => ?_), fun z => by rw [e] at z; cases z⟩
      refine isi "list" (.lst hl) ⟨_, rfl, ?_⟩
      rw [if_neg (by simp [Kn.isT])]
      refine ⟨_, rfl, l, [], rfl, SqL.of hl, for_it walk_enum (fun i σ H' => σ = [some (.ref x), some u, some (.ref l), none, none] ∧ H' = H) ⟨rfl, rfl⟩ (fun i σ H' _ h => by obtain ⟨_, rfl⟩ := h; exact SqL.of hl) ?_ ?_⟩
      · rintro i y σ H1 H2 hi _
        exact absurd hi (Nat.not_lt_zero _)
      · rintro σ H1 ⟨rfl, rfl⟩
        walk_at "nm"
        refine ⟨_, rfl, _, rfl, x, _, dx, [], rfl, hx, T.c_Records, T.n_Records_own_mixing, (by decide), ?_⟩
        generalize hg : upd H1 x _ = G1
        have x1 : Ex x H1 G1 := by
          rw [← hg]
          exact Ex.refl.upd
        have ex1 : G1 x = some (.ins (ga K "Records") dx [("own_mixing", u)]) := by
          rw [← hg, upd_same]
          walk_at "pf"
        clear hg
        have hl1 := x1 _ _ (ne_of hl hx (fun z => by cases z)) hl
        dsimp only
        refine ⟨_, rfl, l, rfl, [], .inl (SqL.of hl1), fun P nP => ?_⟩
        have hPx : P ≠ x := fun z => by
          rw [z, ex1] at nP
          cases nP
        refine ⟨_, rfl, x, _, dx, _, rfl, upd_keep ex1 nP, T.c_Records, T.n_Records_own_periods, by simp, ?_⟩
        refine q _ P ?_ ?_ ?_ ?_
        · rw [upd_same]
          walk_at "pf"
        · rw [upd_ne hPx, upd_same]
        · intro c o hc e
          rw [upd_ne hc, upd_ne (ne_of_none (x1 _ _ hc e) nP)]
          exact x1 _ _ hc e
        · cases e : H1 P with
          | none => rfl
          | some o =>
            rw [x1 _ _ hPx e] at nP
            cases nP

def sp_records_of (K : Frag) : Sp := fun vs H Q E => ∃ (x : V) (k : Kn), vs = [x] ∧ Is K H x k ∧ (∀ a D, k ≠ .ins a D) ∧ Out1 K E H "InvalidStore" "value" x
theorem sc_records_of : FnScope ["store"] ["store"] (defScope s_records_of) := ⟨rfl, rfl, rfl, by decide +kernel, rfl, by decide +kernel, by decide +kernel⟩
theorem ok_records_of {P : Program} {w : World} {K : Frag} {mg : Str → Option Value} {base : Heap} (T : Txt K mg) : FnB P w K mg base 4 (glA "records_of" K) (sp_records_of K) := by
  refine okD (N := ["store"]) (ps := ["store"]) (k := 3) (d := g_records_of) T.d_records_of rfl sc_records_of (fun vs H Q E h => ?_) (fun _ _ _ _ _ _ us hl => match us, hl with | [_], _ => rfl) (fun A outer s H vs Q E hr h => ?_)
  · obtain ⟨x, k, rfl, hx, hk, o⟩ := h
    rfl
  · have hu := hr.hu
    obtain ⟨x, k, rfl, hx, hk, o⟩ := h
    refine ⟨_, (pss_cons (ps_expr (pe_cF (ok_check_store (K := K) T) hr T.m_check_store (passes_call (takes_of rfl rfl rfl rfl) (fun _ _ _ _ h => h)) (pa_cons (pv 0) pa_nil)))
      (pss_one ps_never)), ?_⟩
    walk_at "nm"
    exact ⟨_, k, rfl, hx, (fun a D e => absurd e (hk a D)), (fun z => absurd z (by cases k <;> first | (exact absurd rfl (hk _ _)) | simp [Kn.isC])), fun _ => o⟩

def sp_receipt_fault (K : Frag) : Sp := fun vs H Q E => ∃ (x y : V) (k : Kn), vs = [x, y] ∧ Is K H x k ∧ (∀ a D, k ≠ .ins a D) ∧ Out1 K E H "InvalidRecords" "position" .non
theorem sc_receipt_fault : FnScope ["records", "value"] ["records", "value"] (defScope s_receipt_fault) := ⟨rfl, rfl, rfl, by decide +kernel, rfl, by decide +kernel, by decide +kernel⟩
theorem ok_receipt_fault {P : Program} {w : World} {K : Frag} {mg : Str → Option Value} {base : Heap} (T : Txt K mg) : FnB P w K mg base 4 (glA "receipt_fault" K) (sp_receipt_fault K) := by
  refine okD (N := ["records", "value"]) (ps := ["records", "value"]) (k := 3) (d := g_receipt_fault) T.d_receipt_fault rfl sc_receipt_fault (fun vs H Q E h => ?_) (fun _ _ _ _ _ _ us hl => match us, hl with | [_, _], _ => rfl) (fun A outer s H vs Q E hr h => ?_)
  · obtain ⟨x, y, k, rfl, hx, hk, o⟩ := h
    rfl
  · have hu := hr.hu
    obtain ⟨x, y, k, rfl, hx, hk, o⟩ := h
    refine ⟨_, (pss_cons (ps_expr (pe_cF (ok_check_records (K := K) T) hr T.m_check_records (passes_call (takes_of rfl rfl rfl rfl) (fun _ _ _ _ h => h)) (pa_cons (pv 0) pa_nil)))
      (pss_cons ps_never
      (pss_cons ps_never
      (pss_cons ps_never
      (pss_one ps_never))))), ?_⟩
    walk_at "nm"
    exact ⟨_, k, rfl, hx, (fun a D e => absurd e (hk a D)), (fun z => absurd z (by cases k <;> first | (exact absurd rfl (hk _ _)) | simp [Kn.isC])), fun _ => o⟩

theorem noC {k : Kn} {C : Addr} (h : ∀ a D, k ≠ .ins a D) : k.isC C = false := by
  cases k with
  | ins a D => exact absurd rfl (h a D)
  | _ => rfl
/-- what is wrong with the arguments -/
def BadArgs (K : Frag) (H : Hp) (E : XK) (x y z : V) : Prop := ∃ kx ky kz : Kn, ((Is K H x kx ∧ (∀ a D, kx ≠ .ins a D) ∧ Out1 K E H "InvalidRecords" "position" .non) ∨
   (∃ a, kx = .ins a (ga K "Records") ∧ Is K H x kx ∧ Is K H y ky ∧ (∀ a D, ky ≠ .ins a D) ∧ Out2 K E H "InvalidArc" "first" "second" .non .non) ∨
   (∃ a b, kx = .ins a (ga K "Records") ∧ Is K H x kx ∧ ky = .ins b (ga K "Arc") ∧ Is K H y ky ∧ Is K H z kz ∧ kz.isT "list" = false ∧ Out1 K E H "InvalidReceipts" "position" .non))
def sp_check_receipts (K : Frag) : Sp := fun vs H Q E => ∃ (x y z : V), vs = [x, y, z] ∧ BadArgs K H E x y z
theorem sc_check_receipts : FnScope ["records", "arc", "receipts"] ["records", "arc", "receipts"] (defScope s_check_receipts) := ⟨rfl, rfl, rfl, by decide +kernel, rfl, by decide +kernel, by decide +kernel⟩
theorem ok_check_receipts {P : Program} {w : World} {K : Frag} {mg : Str → Option Value} {base : Heap} (T : Txt K mg) : FnB P w K mg base 4 (glA "check_receipts" K) (sp_check_receipts K) := by
  refine okD (N := ["records", "arc", "receipts"]) (ps := ["records", "arc", "receipts"]) (k := 3) (d := g_check_receipts) T.d_check_receipts rfl sc_check_receipts (fun vs H Q E h => ?_) (fun _ _ _ _ _ _ us hl => match us, hl with | [_, _, _], _ => rfl) (fun A outer s H vs Q E hr h => ?_)
  · obtain ⟨x, y, z, rfl, kx, ky, kz, q⟩ := h
    rfl
  · have hu := hr.hu
    obtain ⟨x, y, z, rfl, kx, ky, kz, q⟩ := h
    refine ⟨_, (pss_cons (ps_expr (pe_cF (ok_check_records (K := K) T) hr T.m_check_records (passes_call (takes_of rfl rfl rfl rfl) (fun _ _ _ _ h => h)) (pa_cons (pv 0) pa_nil)))
      (pss_cons (ps_expr (pe_cF (ok_check_arc (K := K) T) hr T.m_check_arc (passes_call (takes_of rfl rfl rfl rfl) (fun _ _ _ _ h => h)) (pa_cons (pv 1) pa_nil)))
      (pss_one (ps_if (pt_not (pt_val (pe_callB call_isi (by rfl) T.b_isinstance (by decide +kernel) (pa_cons (pv 2) (pa_cons (pe_bltn (v := .ty "list") (u := .type "list") (by rfl) T.b_list (by decide +kernel) rfl) pa_nil)))))
        (pss_one (ps_raiseC rfl (takes_of rfl rfl rfl rfl) T.r_InvalidReceipts (ok_InvalidReceipts_init (K := K) T) hr (pa_cons pe_non pa_nil)))
        pss_nil)))), ?_⟩
    walk_at "nm"
    rcases q with ⟨hx, hk, o⟩ | ⟨a, rfl, hx, hy, hk, o⟩ | ⟨a, b, rfl, hx, rfl, hy, hz, e, o⟩
    · exact ⟨_, kx, rfl, hx, (fun a D e => absurd e (hk a D)), (fun z => by rw [noC hk] at z; cases z), fun _ => o⟩
    · refine ⟨_, _, rfl, hx, (fun a D e => by cases e; rfl), (fun _ => ?_), fun z => absurd z (by simp [Kn.isC])⟩
      walk_at "nm"
      exact ⟨_, ky, rfl, hy, (fun a D e => absurd e (hk a D)), (fun z => by rw [noC hk] at z; cases z), fun _ => o⟩
    · refine ⟨_, _, rfl, hx, (fun a D e => by cases e; rfl), (fun _ => ?_), fun z => absurd z (by simp [Kn.isC])⟩
      walk_at "nm"
      refine ⟨_, _, rfl, hy, (fun a D e => by cases e; rfl), (fun _ => ?_), fun z => absurd z (by simp [Kn.isC])⟩
      walk_at "nm"
      refine isi "list" hz ?_
      walk_at "nm"
      rw [e, if_pos rfl]
      exact o.mk fun Q' q' => q'

def sp_listing_fault (K : Frag) : Sp := fun vs H Q E => ∃ (x y z : V), vs = [x, y, z] ∧ BadArgs K H E x y z
theorem sc_listing_fault : FnScope ["records", "arc", "receipts", "position", "receipt", "word"] ["records", "arc", "receipts"] (defScope s_listing_fault) := ⟨rfl, rfl, rfl, by decide +kernel, rfl, by decide +kernel, by decide +kernel⟩
theorem ok_listing_fault {P : Program} {w : World} {K : Frag} {mg : Str → Option Value} {base : Heap} (T : Txt K mg) : FnB P w K mg base 5 (glA "listing_fault" K) (sp_listing_fault K) := by
  refine okD (N := ["records", "arc", "receipts", "position", "receipt", "word"]) (ps := ["records", "arc", "receipts"]) (k := 4) (d := g_listing_fault) T.d_listing_fault rfl sc_listing_fault (fun vs H Q E h => ?_) (fun _ _ _ _ _ _ us hl => match us, hl with | [_, _, _], _ => rfl) (fun A outer s H vs Q E hr h => ?_)
  · obtain ⟨x, y, z, rfl, q⟩ := h
    rfl
  · have hu := hr.hu
    obtain ⟨x, y, z, rfl, q⟩ := h
    refine ⟨_, (pss_cons (ps_expr (pe_cF (ok_check_receipts (K := K) T) hr T.m_check_receipts (passes_call (takes_of rfl rfl rfl rfl) (fun _ _ _ _ h => h)) (pa_cons (pv 0) (pa_cons (pv 1) (pa_cons (pv 2) pa_nil)))))
      (pss_cons ps_never
      (pss_one ps_never))), ?_⟩
    walk_at "nm"
    exact ⟨x, y, z, rfl, q⟩

def sp_missing_parts (K : Frag) : Sp := fun vs H Q E => ∃ (x y z : V), vs = [x, y, z] ∧ BadArgs K H E x y z
theorem sc_missing_parts : FnScope ["records", "arc", "receipts", "kept", "receipt", "part", "one"] ["records", "arc", "receipts"] (defScope s_missing_parts) := ⟨rfl, rfl, rfl, by decide +kernel, rfl, by decide +kernel, by decide +kernel⟩
theorem ok_missing_parts {P : Program} {w : World} {K : Frag} {mg : Str → Option Value} {base : Heap} (T : Txt K mg) : FnB P w K mg base 5 (glA "missing_parts" K) (sp_missing_parts K) := by
  refine okD (N := ["records", "arc", "receipts", "kept", "receipt", "part", "one"]) (ps := ["records", "arc", "receipts"]) (k := 4) (d := g_missing_parts) T.d_missing_parts rfl sc_missing_parts (fun vs H Q E h => ?_) (fun _ _ _ _ _ _ us hl => match us, hl with | [_, _, _], _ => rfl) (fun A outer s H vs Q E hr h => ?_)
  · obtain ⟨x, y, z, rfl, q⟩ := h
    rfl
  · have hu := hr.hu
    obtain ⟨x, y, z, rfl, q⟩ := h
    refine ⟨_, (pss_cons (ps_expr (pe_cF (ok_check_receipts (K := K) T) hr T.m_check_receipts (passes_call (takes_of rfl rfl rfl rfl) (fun _ _ _ _ h => h)) (pa_cons (pv 0) (pa_cons (pv 1) (pa_cons (pv 2) pa_nil)))))
      (pss_cons ps_never
      (pss_cons ps_never
      (pss_one ps_never)))), ?_⟩
    walk_at "nm"
    exact ⟨x, y, z, rfl, q⟩

def sp_is_listing (K : Frag) : Sp := fun vs H Q E => ∃ (x y z : V) (kx ky kz : Kn), vs = [x, y, z] ∧ ((Is K H x kx ∧ (∀ a D, kx ≠ .ins a D) ∧ Out1 K E H "InvalidRecords" "position" .non) ∨
   (∃ a, kx = .ins a (ga K "Records") ∧ Is K H x kx ∧ Is K H y ky ∧ (∀ a D, ky ≠ .ins a D) ∧ Out2 K E H "InvalidArc" "first" "second" .non .non) ∨
   (∃ a b, kx = .ins a (ga K "Records") ∧ Is K H x kx ∧ ky = .ins b (ga K "Arc") ∧ Is K H y ky ∧ Is K H z kz ∧ kz.isT "list" = false ∧ Q (.bl false) H))
theorem sc_is_listing : FnScope ["records", "arc", "value"] ["records", "arc", "value"] (defScope s_is_listing) := ⟨rfl, rfl, rfl, by decide +kernel, rfl, by decide +kernel, by decide +kernel⟩
theorem ok_is_listing {P : Program} {w : World} {K : Frag} {mg : Str → Option Value} {base : Heap} (T : Txt K mg) : FnB P w K mg base 6 (glA "is_listing" K) (sp_is_listing K) := by
  refine okD (N := ["records", "arc", "value"]) (ps := ["records", "arc", "value"]) (k := 5) (d := g_is_listing) T.d_is_listing rfl sc_is_listing (fun vs H Q E h => ?_) (fun _ _ _ _ _ _ us hl => match us, hl with | [_, _, _], _ => rfl) (fun A outer s H vs Q E hr h => ?_)
  · obtain ⟨x, y, z, kx, ky, kz, rfl, q⟩ := h
    rfl
  · have hu := hr.hu
    obtain ⟨x, y, z, kx, ky, kz, rfl, q⟩ := h
    refine ⟨_, (pss_cons (ps_expr (pe_cF (ok_check_records (K := K) T) hr T.m_check_records (passes_call (takes_of rfl rfl rfl rfl) (fun _ _ _ _ h => h)) (pa_cons (pv 0) pa_nil)))
      (pss_cons (ps_expr (pe_cF (ok_check_arc (K := K) T) hr T.m_check_arc (passes_call (takes_of rfl rfl rfl rfl) (fun _ _ _ _ h => h)) (pa_cons (pv 1) pa_nil)))
      (pss_one (ps_ret (pe_and (pe_callB call_isi (by rfl) T.b_isinstance (by decide +kernel) (pa_cons (pv 2) (pa_cons (pe_bltn (v := .ty "list") (u := .type "list") (by rfl) T.b_list (by decide +kernel) rfl) pa_nil))) (pe_one (pe_cmpR op_isN (pe_cF (ok_listing_fault (K := K) T) hr T.m_listing_fault (passes_call (takes_of rfl rfl rfl rfl) (fun _ _ _ _ h => h)) (pa_cons (pv 0) (pa_cons (pv 1) (pa_cons (pv 2) pa_nil)))) pe_non (nomark _)))))))), ?_⟩
    walk_at "nm"
    rcases q with ⟨hx, hk, o⟩ | ⟨a, rfl, hx, hy, hk, o⟩ | ⟨a, b, rfl, hx, rfl, hy, hz, e, o⟩
    · exact ⟨_, kx, rfl, hx, (fun a D e => absurd e (hk a D)), (fun z => by rw [noC hk] at z; cases z), fun _ => o⟩
    · refine ⟨_, _, rfl, hx, (fun a D e => by cases e; rfl), (fun _ => ?_), fun z => absurd z (by simp [Kn.isC])⟩
      walk_at "nm"
      exact ⟨_, ky, rfl, hy, (fun a D e => absurd e (hk a D)), (fun z => by rw [noC hk] at z; cases z), fun _ => o⟩
    · refine ⟨_, _, rfl, hx, (fun a D e => by cases e; rfl), (fun _ => ?_), fun z => absurd z (by simp [Kn.isC])⟩
      walk_at "nm"
      refine ⟨_, _, rfl, hy, (fun a D e => by cases e; rfl), (fun _ => ?_), fun z => absurd z (by simp [Kn.isC])⟩
      walk_at "nm"
      refine isi "list" hz ?_
      walk_at "nm"
      rw [e]
      exact iteF o

def sp_Records_owner_at (K : Frag) : Sp := fun vs H Q E => ∃ (x p m : V), vs = [x, p, m] ∧
  ((PtV K H p false ∧ Out1 K E H "InvalidPoint" "value" p) ∨ (∃ km, PtV K H p true ∧ Is K H m km ∧ km.least 0 = false ∧ Out1 K E H "InvalidNumber" "value" m))
theorem sc_Records_owner_at : FnScope ["self", "point", "moment", "period"] ["self", "point", "moment"] (defScope s_Records_owner_at) := ⟨rfl, rfl, rfl, by decide +kernel, rfl, by decide +kernel, by decide +kernel⟩
theorem ok_Records_owner_at {P : Program} {w : World} {K : Frag} {mg : Str → Option Value} {base : Heap} (T : Txt K mg) : FnB P w K mg base 5 (mtA "Records" "owner_at" K) (sp_Records_owner_at K) := by
  refine okD (N := ["self", "point", "moment", "period"]) (ps := ["self", "point", "moment"]) (k := 4) (d := g_Records_owner_at) T.d_Records_owner_at rfl sc_Records_owner_at (fun vs H Q E h => ?_) (fun _ _ _ _ _ _ us hl => match us, hl with | [_, _, _], _ => rfl) (fun A outer s H vs Q E hr h => ?_)
  · obtain ⟨x, p, m, rfl, q⟩ := h
    rfl
  · have hu := hr.hu
    obtain ⟨x, p, m, rfl, q⟩ := h
    refine ⟨_, (pss_cons (ps_expr (pe_cF (ok_check_point (K := K) T) hr T.m_check_point (passes_call (takes_of rfl rfl rfl rfl) (fun _ _ _ _ h => h)) (pa_cons (pv 1) pa_nil)))
      (pss_cons (ps_expr (pe_cF (ok_check_least (K := K) T) hr T.m_check_least (passes_call (takes_of rfl rfl rfl rfl) (fun _ _ _ _ h => h)) (pa_cons (pv 2) (pa_cons pe_int pa_nil))))
      (pss_cons ps_never
      (pss_one ps_never)))), ?_⟩
    walk_at "nm"
    rcases q with ⟨hp, o⟩ | ⟨km, hp, hm, e, o⟩
    · exact ⟨_, _, rfl, hp, (fun z => by cases z), fun _ => o⟩
    · refine ⟨_, _, rfl, hp, (fun _ H1 s1 => ?_), fun z => by cases z⟩
      exact ⟨_, km, _, rfl, hm.same s1, (fun z => by rw [e] at z; cases z), fun _ => o.same s1⟩

def sp__law_call (K : Frag) : Sp := fun vs H Q E => ∃ (d : Int) (x y z : V), vs = [.int d, x, y, z] ∧
  ((d = 0 ∧ ∃ ku kv : Kn, Is K H x ku ∧ (∀ a D, ku = .ins a D → D = ga K "Mixing") ∧ Is K H y kv ∧
     ((ku.isC (ga K "Mixing") = false ∧ Out1 K E H "InvalidMixing" "value" x) ∨ (ku.isC (ga K "Mixing") = true ∧ kv.isT "list" = false ∧ Out1 K E H "InvalidRecords" "position" .non) ∨
      (ku.isC (ga K "Mixing") = true ∧ ∃ (l : Addr) (us : List V) (j : Nat), y = .ref l ∧ H l = some (.lst us) ∧ us.length ≤ 1000 ∧ OddPr K H us j ∧ Out1 K E H "InvalidRecords" "position" (.int (j : Nat))))) ∨
   (d = 1 ∧ ∃ k : Kn, Is K H x k ∧ (∀ a D, k ≠ .ins a D) ∧ Out1 K E H "InvalidStore" "value" x) ∨
   (d = 2 ∧ ∃ k : Kn, Is K H x k ∧ (∀ a D, k ≠ .ins a D) ∧ Out1 K E H "InvalidRecords" "position" .non) ∨
   ((d = 3 ∨ d = 4) ∧ BadArgs K H E x y z) ∨
   (d = 5 ∧ ∃ kx ky kz : Kn, ((Is K H x kx ∧ (∀ a D, kx ≠ .ins a D) ∧ Out1 K E H "InvalidRecords" "position" .non) ∨
   (∃ a, kx = .ins a (ga K "Records") ∧ Is K H x kx ∧ Is K H y ky ∧ (∀ a D, ky ≠ .ins a D) ∧ Out2 K E H "InvalidArc" "first" "second" .non .non) ∨
   (∃ a b, kx = .ins a (ga K "Records") ∧ Is K H x kx ∧ ky = .ins b (ga K "Arc") ∧ Is K H y ky ∧ Is K H z kz ∧ kz.isT "list" = false ∧ Q (.bl false) H))))
theorem sc__law_call : FnScope ["_law_door", "_law_one", "_law_two", "_law_three"] ["_law_door", "_law_one", "_law_two", "_law_three"] (defScope s__law_call) := ⟨rfl, rfl, rfl, by decide +kernel, rfl, by decide +kernel, by decide +kernel⟩
theorem ok__law_call {P : Program} {w : World} {K : Frag} {mg : Str → Option Value} {base : Heap} (T : Txt K mg) : FnB P w K mg base 7 (glA "_law_call" K) (sp__law_call K) := by
  refine okD (N := ["_law_door", "_law_one", "_law_two", "_law_three"]) (ps := ["_law_door", "_law_one", "_law_two", "_law_three"]) (k := 6) (d := g__law_call) T.d__law_call rfl sc__law_call (fun vs H Q E h => ?_) (fun _ _ _ _ _ _ us hl => match us, hl with | [_, _, _, _], _ => rfl) (fun A outer s H vs Q E hr h => ?_)
  · obtain ⟨d, x, y, z, rfl, q⟩ := h
    rfl
  · have hu := hr.hu
    obtain ⟨d, x, y, z, rfl, q⟩ := h
    refine ⟨_, (pss_cons (ps_if (pt_cmpR op_eq (pv 0) pe_int (nomark _))
        (pss_one (ps_ret (pe_mkF T.k_Records (ok_Records_init (K := K) T) hr T.m_Records (passes_call (takes_of rfl rfl rfl rfl) (fun _ _ _ _ h => h)) (pa_cons (pv 1) (pa_cons (pv 2) pa_nil)))))
        pss_nil)
      (pss_cons (ps_if (pt_cmpR op_eq (pv 0) pe_int (nomark _))
        (pss_one (ps_ret (pe_cF (ok_records_of (K := K) T) hr T.m_records_of (passes_call (takes_of rfl rfl rfl rfl) (fun _ _ _ _ h => h)) (pa_cons (pv 1) pa_nil))))
        pss_nil)
      (pss_cons (ps_if (pt_cmpR op_eq (pv 0) pe_int (nomark _))
        (pss_one (ps_ret (pe_cF (ok_receipt_fault (K := K) T) hr T.m_receipt_fault (passes_call (takes_of rfl rfl rfl rfl) (fun _ _ _ _ h => h)) (pa_cons (pv 1) (pa_cons (pv 2) pa_nil)))))
        pss_nil)
      (pss_cons (ps_if (pt_cmpR op_eq (pv 0) pe_int (nomark _))
        (pss_one (ps_ret (pe_cF (ok_listing_fault (K := K) T) hr T.m_listing_fault (passes_call (takes_of rfl rfl rfl rfl) (fun _ _ _ _ h => h)) (pa_cons (pv 1) (pa_cons (pv 2) (pa_cons (pv 3) pa_nil))))))
        pss_nil)
      (pss_cons (ps_if (pt_cmpR op_eq (pv 0) pe_int (nomark _))
        (pss_one (ps_ret (pe_cF (ok_missing_parts (K := K) T) hr T.m_missing_parts (passes_call (takes_of rfl rfl rfl rfl) (fun _ _ _ _ h => h)) (pa_cons (pv 1) (pa_cons (pv 2) (pa_cons (pv 3) pa_nil))))))
        pss_nil)
      (pss_one (ps_ret (pe_cF (ok_is_listing (K := K) T) hr T.m_is_listing (passes_call (takes_of rfl rfl rfl rfl) (fun _ _ _ _ h => h)) (pa_cons (pv 1) (pa_cons (pv 2) (pa_cons (pv 3) pa_nil))))))))))), ?_⟩
    rcases q with ⟨rfl, ku, kv, hu', hD, hv, q⟩ | ⟨rfl, k, hx, hk, o⟩ | ⟨rfl, k, hx, hk, o⟩ | ⟨rfl | rfl, q⟩ | ⟨rfl, kx, ky, kz, q⟩
    · walk_at "nm"
      refine ⟨rfl, _, rfl, ?_⟩
      rw [if_pos (by decide)]
      refine ⟨_, rfl, _, rfl, ?_⟩
      intro r dr nr ndr ner
      generalize hg : upd (upd _ dr _) r _ = G1
      have s1 := madeOf nr ndr ner hg
      have h1 := atOf hg
      clear hg
      refine ⟨r, dr, x, y, ku, kv, rfl, h1, hu'.same s1, hD, hv.same s1, ?_⟩
      rcases q with ⟨e, o⟩ | ⟨e, e2, o⟩ | ⟨e, l, us, j, rfl, hl, few, hj, o⟩
      · exact .inl ⟨e, o.same s1⟩
      · exact .inr (.inl ⟨e, e2, o.same s1⟩)
      · exact .inr (.inr (.inl ⟨e, l, us, j, rfl, s1 _ _ hl, few, hj.same s1, o.same s1⟩))
    · walk_at "nm"
      refine ⟨rfl, _, rfl, ?_⟩
      rw [if_neg (by decide)]
      refine ⟨rfl, _, rfl, ?_⟩
      rw [if_pos (by decide)]
      exact ⟨x, k, rfl, hx, hk, o⟩
    · walk_at "nm"
      refine ⟨rfl, _, rfl, ?_⟩
      rw [if_neg (by decide)]
      refine ⟨rfl, _, rfl, ?_⟩
      rw [if_neg (by decide)]
      refine ⟨rfl, _, rfl, ?_⟩
      rw [if_pos (by decide)]
      exact ⟨x, y, k, rfl, hx, hk, o⟩
    · walk_at "nm"
      refine ⟨rfl, _, rfl, ?_⟩
      rw [if_neg (by decide)]
      refine ⟨rfl, _, rfl, ?_⟩
      rw [if_neg (by decide)]
      refine ⟨rfl, _, rfl, ?_⟩
      rw [if_neg (by decide)]
      refine ⟨rfl, _, rfl, ?_⟩
      rw [if_pos (by decide)]
      exact ⟨x, y, z, rfl, q⟩
    · walk_at "nm"
      refine ⟨rfl, _, rfl, ?_⟩
      rw [if_neg (by decide)]
      refine ⟨rfl, _, rfl, ?_⟩
      rw [if_neg (by decide)]
      refine ⟨rfl, _, rfl, ?_⟩
      rw [if_neg (by decide)]
      refine ⟨rfl, _, rfl, ?_⟩
      rw [if_neg (by decide)]
      refine ⟨rfl, _, rfl, ?_⟩
      rw [if_pos (by decide)]
      exact ⟨x, y, z, rfl, q⟩
    · walk_at "nm"
      refine ⟨rfl, _, rfl, ?_⟩
      rw [if_neg (by decide)]
      refine ⟨rfl, _, rfl, ?_⟩
      rw [if_neg (by decide)]
      refine ⟨rfl, _, rfl, ?_⟩
      rw [if_neg (by decide)]
      refine ⟨rfl, _, rfl, ?_⟩
      rw [if_neg (by decide)]
      refine ⟨rfl, _, rfl, ?_⟩
      rw [if_neg (by decide)]
      exact ⟨x, y, z, kx, ky, kz, rfl, q⟩

/-- what _law_told makes of an error -/
def xRef__law_told (K : Frag) (Q : VK) : XK := fun cls d H' =>
  (∃ (dd : Addr) (v_value : V) (z_value : Str), cls = .ref (ga K "InvalidMixing") ∧ d = some dd ∧ H' dd = some (.xd [("value", v_value)]) ∧ Rp K H' v_value z_value ∧ ∀ r, H' r = none → Q (.ref r) (upd H' r (.lst [.str "mixing", .str z_value, .bl true]))) ∨
  (∃ (dd : Addr) (v_position : V), cls = .ref (ga K "InvalidRecords") ∧ d = some dd ∧ H' dd = some (.xd [("position", v_position)]) ∧ ∀ r, H' r = none → Q (.ref r) (upd H' r (.lst [.str "records", v_position, .bl true]))) ∨
  (∃ (dd : Addr) (v_position : V), cls = .ref (ga K "InvalidReceipts") ∧ d = some dd ∧ H' dd = some (.xd [("position", v_position)]) ∧ ∀ r, H' r = none → Q (.ref r) (upd H' r (.lst [.str "receipts", v_position, .bl true]))) ∨
  (∃ (dd : Addr) (v_first v_second : V), cls = .ref (ga K "InvalidArc") ∧ d = some dd ∧ H' dd = some (.xd [("second", v_second), ("first", v_first)]) ∧ ∀ r, H' r = none → Q (.ref r) (upd H' r (.lst [.str "arc", v_first, v_second, .bl true]))) ∨
  (∃ (dd : Addr) (v_value : V) (z_value : Str), cls = .ref (ga K "InvalidStore") ∧ d = some dd ∧ H' dd = some (.xd [("value", v_value)]) ∧ Rp K H' v_value z_value ∧ ∀ r, H' r = none → Q (.ref r) (upd H' r (.lst [.str "store", .str z_value, .bl true])))
def sp__law_told (K : Frag) : Sp := fun vs H Q _ => ∃ (x0 x1 x2 x3 : V), vs = [x0, x1, x2, x3] ∧ ∀ (E : XK) (Q' : VK), (∀ cls d H', xRef__law_told K Q cls d H' → E cls d H') → (∀ v H', (∀ r, H' r = none → Q (.ref r) (upd H' r (.lst [.str "told", v]))) → Q' v H') → sp__law_call K [x0, x1, x2, x3] H Q' E
theorem sc__law_told : FnScope ["_law_door", "_law_one", "_law_two", "_law_three", "e"] ["_law_door", "_law_one", "_law_two", "_law_three"] (defScope s__law_told) := ⟨rfl, rfl, rfl, by decide +kernel, rfl, by decide +kernel, by decide +kernel⟩
theorem ok__law_told {P : Program} {w : World} {K : Frag} {mg : Str → Option Value} {base : Heap} (T : Txt K mg) : FnB P w K mg base 8 (glA "_law_told" K) (sp__law_told K) := by
  refine okD (N := ["_law_door", "_law_one", "_law_two", "_law_three", "e"]) (ps := ["_law_door", "_law_one", "_law_two", "_law_three"]) (k := 7) (d := g__law_told) T.d__law_told rfl sc__law_told (fun vs H Q E h => ?_) (fun _ _ _ _ _ _ us hl => match us, hl with | [_, _, _, _], _ => rfl) (fun A outer s H vs Q E hr h => ?_)
  · obtain ⟨x0, x1, x2, x3, rfl, h⟩ := h
    rfl
  · have hu := hr.hu
    obtain ⟨x0, x1, x2, x3, rfl, h⟩ := h
    refine ⟨_, PSs.nox ((pss_one (ps_tryA rfl rfl sc__law_told.nd takes_none (fun W pn xe tk _ => pss_one (ps_ret (pe_lst (pa_cons pe_str (pa_cons (pe_cF (ok__law_call (K := K) T) hr T.m__law_call (passes_call (E := fun cls d H' => ∀ σ', W cls d σ' H') tk (fun _ _ σ' _ h => h σ')) (pa_cons (pv 0) (pa_cons (pv 1) (pa_cons (pv 2) (pa_cons (pv 3) pa_nil))))) pa_nil)))))
      (HdA.cons (k := ⟨.ref (ga K "InvalidMixing"), 4, _⟩) ⟨rfl, rfl, .inl T.m_InvalidMixing⟩ rfl rfl (fun a oe cls d pn hz hf => (pss_one (ps_ret (pe_lst (pa_cons pe_str (pa_cons (pe_callB (call_reprVX hz (by have z := hr.g; exact z) (by have z := hu99 hr; exact z)) (by rfl) T.b_repr (by decide +kernel) (pa_cons (pe_xf T.xf_InvalidMixing T.xn_InvalidMixing_value hz hf (pv 4)) pa_nil)) (pa_cons (pe_callB (call_isX hz hf) (by rfl) T.b_isinstance (by decide +kernel) (pa_cons (pv 4) (pa_cons (pe_bltn (v := .ty "ValueError") (u := .type "ValueError") (by rfl) T.b_ValueError (by decide +kernel) rfl) pa_nil))) pa_nil)))))))
      (HdA.cons (k := ⟨.ref (ga K "InvalidRecords"), 4, _⟩) ⟨rfl, rfl, .inl T.m_InvalidRecords⟩ rfl rfl (fun a oe cls d pn hz hf => (pss_one (ps_ret (pe_lst (pa_cons pe_str (pa_cons (pe_xf T.xf_InvalidRecords T.xn_InvalidRecords_position hz hf (pv 4)) (pa_cons (pe_callB (call_isX hz hf) (by rfl) T.b_isinstance (by decide +kernel) (pa_cons (pv 4) (pa_cons (pe_bltn (v := .ty "ValueError") (u := .type "ValueError") (by rfl) T.b_ValueError (by decide +kernel) rfl) pa_nil))) pa_nil)))))))
      (HdA.cons (k := ⟨.ref (ga K "InvalidReceipts"), 4, _⟩) ⟨rfl, rfl, .inl T.m_InvalidReceipts⟩ rfl rfl (fun a oe cls d pn hz hf => (pss_one (ps_ret (pe_lst (pa_cons pe_str (pa_cons (pe_xf T.xf_InvalidReceipts T.xn_InvalidReceipts_position hz hf (pv 4)) (pa_cons (pe_callB (call_isX hz hf) (by rfl) T.b_isinstance (by decide +kernel) (pa_cons (pv 4) (pa_cons (pe_bltn (v := .ty "ValueError") (u := .type "ValueError") (by rfl) T.b_ValueError (by decide +kernel) rfl) pa_nil))) pa_nil)))))))
      (HdA.cons (k := ⟨.ref (ga K "InvalidArc"), 4, _⟩) ⟨rfl, rfl, .inl T.m_InvalidArc⟩ rfl rfl (fun a oe cls d pn hz hf => (pss_one (ps_ret (pe_lst (pa_cons pe_str (pa_cons (pe_xf T.xf_InvalidArc T.xn_InvalidArc_first hz hf (pv 4)) (pa_cons (pe_xf T.xf_InvalidArc T.xn_InvalidArc_second hz hf (pv 4)) (pa_cons (pe_callB (call_isX hz hf) (by rfl) T.b_isinstance (by decide +kernel) (pa_cons (pv 4) (pa_cons (pe_bltn (v := .ty "ValueError") (u := .type "ValueError") (by rfl) T.b_ValueError (by decide +kernel) rfl) pa_nil))) pa_nil))))))))
      (HdA.cons (k := ⟨.ref (ga K "InvalidStore"), 4, _⟩) ⟨rfl, rfl, .inl T.m_InvalidStore⟩ rfl rfl (fun a oe cls d pn hz hf => (pss_one (ps_ret (pe_lst (pa_cons pe_str (pa_cons (pe_callB (call_reprVX hz (by have z := hr.g; exact z) (by have z := hu99 hr; exact z)) (by rfl) T.b_repr (by decide +kernel) (pa_cons (pe_xf T.xf_InvalidStore T.xn_InvalidStore_value hz hf (pv 4)) pa_nil)) (pa_cons (pe_callB (call_isX hz hf) (by rfl) T.b_isinstance (by decide +kernel) (pa_cons (pv 4) (pa_cons (pe_bltn (v := .ty "ValueError") (u := .type "ValueError") (by rfl) T.b_ValueError (by decide +kernel) rfl) pa_nil))) pa_nil)))))))
      HdA.nil)))))))), ?_⟩
    walk_at "nm"
    refine h _ _ (fun cls d H' hx σ' hl => ?_) fun v H' q => ⟨by rw [sizeLine_eq]; decide, fun r hr => q r hr⟩
    obtain ⟨s0, s1, s2, s3, s4, rfl⟩ : ∃ s0 s1 s2 s3 s4, σ' = [s0, s1, s2, s3, s4] := match σ', hl with
      | [s0, s1, s2, s3, s4], _ => ⟨s0, s1, s2, s3, s4, rfl⟩
    rcases hx with ⟨dd, v_value, z_value, rfl, rfl, hd, hz_value, q⟩ | ⟨dd, v_position, rfl, rfl, hd, q⟩ | ⟨dd, v_position, rfl, rfl, hd, q⟩ | ⟨dd, v_first, v_second, rfl, rfl, hd, q⟩ | ⟨dd, v_value, z_value, rfl, rfl, hd, hz_value, q⟩
    · refine ⟨true, T.em_InvalidMixing_InvalidMixing, fun _ a ha => ?_, fun z => by cases z⟩
      first | refine ⟨_, rfl, rfl, rfl, dd, _, _, rfl, hd, (by walk_at "lk"), ?_⟩ | refine ⟨_, rfl, rfl, rfl, dd, rfl, _, hd, _, (by walk_at "lk"), ?_⟩
      refine ⟨_, _, rfl, hz_value, ?_⟩
      refine ⟨_, rfl, _, dd, _, _, _, _, rfl, rfl, hd, T.xc_InvalidMixing, rfl, .ty "ValueError", T.xk_InvalidMixing, ?_⟩
      exact ⟨by rw [sizeLine_eq]; first | decide | simp, fun r hr => q r hr⟩
    · refine ⟨false, T.em_InvalidRecords_InvalidMixing, (fun z => by cases z), fun _ => ⟨true, T.em_InvalidRecords_InvalidRecords, fun _ a ha => ?_, fun z => by cases z⟩⟩
      first | refine ⟨_, rfl, rfl, rfl, dd, _, _, rfl, hd, (by walk_at "lk"), ?_⟩ | refine ⟨_, rfl, rfl, rfl, dd, rfl, _, hd, _, (by walk_at "lk"), ?_⟩
      refine ⟨_, rfl, _, dd, _, _, _, _, rfl, rfl, hd, T.xc_InvalidRecords, rfl, .ty "ValueError", T.xk_InvalidRecords, ?_⟩
      exact ⟨by rw [sizeLine_eq]; first | decide | simp, fun r hr => q r hr⟩
    · refine ⟨false, T.em_InvalidReceipts_InvalidMixing, (fun z => by cases z), fun _ => ⟨false, T.em_InvalidReceipts_InvalidRecords, (fun z => by cases z), fun _ => ⟨true, T.em_InvalidReceipts_InvalidReceipts, fun _ a ha => ?_, fun z => by cases z⟩⟩⟩
      first | refine ⟨_, rfl, rfl, rfl, dd, _, _, rfl, hd, (by walk_at "lk"), ?_⟩ | refine ⟨_, rfl, rfl, rfl, dd, rfl, _, hd, _, (by walk_at "lk"), ?_⟩
      refine ⟨_, rfl, _, dd, _, _, _, _, rfl, rfl, hd, T.xc_InvalidReceipts, rfl, .ty "ValueError", T.xk_InvalidReceipts, ?_⟩
      exact ⟨by rw [sizeLine_eq]; first | decide | simp, fun r hr => q r hr⟩
    · refine ⟨false, T.em_InvalidArc_InvalidMixing, (fun z => by cases z), fun _ => ⟨false, T.em_InvalidArc_InvalidRecords, (fun z => by cases z), fun _ => ⟨false, T.em_InvalidArc_InvalidReceipts, (fun z => by cases z), fun _ => ⟨true, T.em_InvalidArc_InvalidArc, fun _ a ha => ?_, fun z => by cases z⟩⟩⟩⟩
      first | refine ⟨_, rfl, rfl, rfl, dd, _, _, rfl, hd, (by walk_at "lk"), ?_⟩ | refine ⟨_, rfl, rfl, rfl, dd, rfl, _, hd, _, (by walk_at "lk"), ?_⟩
      first | refine ⟨_, rfl, rfl, rfl, dd, _, _, rfl, hd, (by walk_at "lk"), ?_⟩ | refine ⟨_, rfl, rfl, rfl, dd, rfl, _, hd, _, (by walk_at "lk"), ?_⟩
      refine ⟨_, rfl, _, dd, _, _, _, _, rfl, rfl, hd, T.xc_InvalidArc, rfl, .ty "ValueError", T.xk_InvalidArc, ?_⟩
      exact ⟨by rw [sizeLine_eq]; first | decide | simp, fun r hr => q r hr⟩
    · refine ⟨false, T.em_InvalidStore_InvalidMixing, (fun z => by cases z), fun _ => ⟨false, T.em_InvalidStore_InvalidRecords, (fun z => by cases z), fun _ => ⟨false, T.em_InvalidStore_InvalidReceipts, (fun z => by cases z), fun _ => ⟨false, T.em_InvalidStore_InvalidArc, (fun z => by cases z), fun _ => ⟨true, T.em_InvalidStore_InvalidStore, fun _ a ha => ?_, fun z => by cases z⟩⟩⟩⟩⟩
      first | refine ⟨_, rfl, rfl, rfl, dd, _, _, rfl, hd, (by walk_at "lk"), ?_⟩ | refine ⟨_, rfl, rfl, rfl, dd, rfl, _, hd, _, (by walk_at "lk"), ?_⟩
      refine ⟨_, _, rfl, hz_value, ?_⟩
      refine ⟨_, rfl, _, dd, _, _, _, _, rfl, rfl, hd, T.xc_InvalidStore, rfl, .ty "ValueError", T.xk_InvalidStore, ?_⟩
      exact ⟨by rw [sizeLine_eq]; first | decide | simp, fun r hr => q r hr⟩

section
variable {K : Frag} {H : Hp} {Q : VK} {E : XK}
theorem out__law_told_InvalidMixing {v_value : V} {z_value : Str} (hE : ∀ cls d H', xRef__law_told K Q cls d H' → E cls d H') (hz_value : ∀ H', Same H H' → Rp K H' v_value z_value) (q : ∀ H' r, Same H H' → H r = none → H' r = some (.lst [.str "mixing", .str z_value, .bl true]) → Q (.ref r) H') : Out1 K E H "InvalidMixing" "value" v_value := fun H2 d s2 hd => hE _ _ _ (.inl ⟨d, v_value, z_value, rfl, rfl, hd, hz_value H2 s2, fun r hr => q _ r (s2.trans (Same.upd (Same.refl _) hr)) (s2.free hr) upd_same⟩)
theorem out__law_told_InvalidRecords {v_position : V} (hE : ∀ cls d H', xRef__law_told K Q cls d H' → E cls d H') (q : ∀ H' r, Same H H' → H r = none → H' r = some (.lst [.str "records", v_position, .bl true]) → Q (.ref r) H') : Out1 K E H "InvalidRecords" "position" v_position := fun H2 d s2 hd => hE _ _ _ (.inr (.inl ⟨d, v_position, rfl, rfl, hd, fun r hr => q _ r (s2.trans (Same.upd (Same.refl _) hr)) (s2.free hr) upd_same⟩))
theorem out__law_told_InvalidReceipts {v_position : V} (hE : ∀ cls d H', xRef__law_told K Q cls d H' → E cls d H') (q : ∀ H' r, Same H H' → H r = none → H' r = some (.lst [.str "receipts", v_position, .bl true]) → Q (.ref r) H') : Out1 K E H "InvalidReceipts" "position" v_position := fun H2 d s2 hd => hE _ _ _ (.inr (.inr (.inl ⟨d, v_position, rfl, rfl, hd, fun r hr => q _ r (s2.trans (Same.upd (Same.refl _) hr)) (s2.free hr) upd_same⟩)))
theorem out__law_told_InvalidArc {v_first v_second : V} (hE : ∀ cls d H', xRef__law_told K Q cls d H' → E cls d H') (q : ∀ H' r, Same H H' → H r = none → H' r = some (.lst [.str "arc", v_first, v_second, .bl true]) → Q (.ref r) H') : Out2 K E H "InvalidArc" "first" "second" v_first v_second := fun H2 d s2 hd => hE _ _ _ (.inr (.inr (.inr (.inl ⟨d, v_first, v_second, rfl, rfl, hd, fun r hr => q _ r (s2.trans (Same.upd (Same.refl _) hr)) (s2.free hr) upd_same⟩))))
theorem out__law_told_InvalidStore {v_value : V} {z_value : Str} (hE : ∀ cls d H', xRef__law_told K Q cls d H' → E cls d H') (hz_value : ∀ H', Same H H' → Rp K H' v_value z_value) (q : ∀ H' r, Same H H' → H r = none → H' r = some (.lst [.str "store", .str z_value, .bl true]) → Q (.ref r) H') : Out1 K E H "InvalidStore" "value" v_value := fun H2 d s2 hd => hE _ _ _ (.inr (.inr (.inr (.inr ⟨d, v_value, z_value, rfl, rfl, hd, hz_value H2 s2, fun r hr => q _ r (s2.trans (Same.upd (Same.refl _) hr)) (s2.free hr) upd_same⟩))))
end

/-- what _law_owner_told makes of an error -/
def xRef__law_owner_told (K : Frag) (Q : VK) : XK := fun cls d H' =>
  (∃ (dd : Addr) (v_value : V) (z_value : Str), cls = .ref (ga K "InvalidPoint") ∧ d = some dd ∧ H' dd = some (.xd [("value", v_value)]) ∧ Rp K H' v_value z_value ∧ ∀ r, H' r = none → Q (.ref r) (upd H' r (.lst [.str "point", .str z_value, .bl true]))) ∨
  (∃ (dd : Addr) (v_value : V) (z_value : Str), cls = .ref (ga K "InvalidNumber") ∧ d = some dd ∧ H' dd = some (.xd [("value", v_value)]) ∧ Rp K H' v_value z_value ∧ ∀ r, H' r = none → Q (.ref r) (upd H' r (.lst [.str "number", .str z_value, .bl true])))
def sp__law_owner_told (K : Frag) : Sp := fun vs H Q _ => ∃ (x0 d0 : Addr) (fs0 : List (Str × V)) (x1 x2 : V), vs = [.ref x0, x1, x2] ∧ H x0 = some (.ins (ga K "Records") d0 fs0) ∧ fs0.lookup ("owner_at" : Str) = none ∧ ∀ (E : XK) (Q' : VK), (∀ cls d H', xRef__law_owner_told K Q cls d H' → E cls d H') → (∀ v H', (∀ r, H' r = none → Q (.ref r) (upd H' r (.lst [.str "told", v]))) → Q' v H') → sp_Records_owner_at K [.ref x0, x1, x2] H Q' E
theorem sc__law_owner_told : FnScope ["_law_records", "_law_point", "_law_moment", "e"] ["_law_records", "_law_point", "_law_moment"] (defScope s__law_owner_told) := ⟨rfl, rfl, rfl, by decide +kernel, rfl, by decide +kernel, by decide +kernel⟩
theorem ok__law_owner_told {P : Program} {w : World} {K : Frag} {mg : Str → Option Value} {base : Heap} (T : Txt K mg) : FnB P w K mg base 6 (glA "_law_owner_told" K) (sp__law_owner_told K) := by
  refine okD (N := ["_law_records", "_law_point", "_law_moment", "e"]) (ps := ["_law_records", "_law_point", "_law_moment"]) (k := 5) (d := g__law_owner_told) T.d__law_owner_told rfl sc__law_owner_told (fun vs H Q E h => ?_) (fun _ _ _ _ _ _ us hl => match us, hl with | [_, _, _], _ => rfl) (fun A outer s H vs Q E hr h => ?_)
  · obtain ⟨x0, d0, fs0, x1, x2, rfl, hx0, hl0, h⟩ := h
    rfl
  · have hu := hr.hu
    obtain ⟨x0, d0, fs0, x1, x2, rfl, hx0, hl0, h⟩ := h
    refine ⟨_, PSs.nox ((pss_one (ps_tryA rfl rfl sc__law_owner_told.nd takes_none (fun W pn xe tk _ => pss_one (ps_ret (pe_lst (pa_cons pe_str (pa_cons (pe_mtF (pv 0) T.c_Records T.e_Records_owner_at (ok_Records_owner_at (K := K) T) hr (passes_call (E := fun cls d H' => ∀ σ', W cls d σ' H') tk (fun _ _ σ' _ h => h σ')) (pa_cons (pv 1) (pa_cons (pv 2) pa_nil))) pa_nil)))))
      (HdA.cons (k := ⟨.ref (ga K "InvalidPoint"), 3, _⟩) ⟨rfl, rfl, .inl T.m_InvalidPoint⟩ rfl rfl (fun a oe cls d pn hz hf => (pss_one (ps_ret (pe_lst (pa_cons pe_str (pa_cons (pe_callB (call_reprVX hz (by have z := hr.g; exact z) (by have z := hu99 hr; exact z)) (by rfl) T.b_repr (by decide +kernel) (pa_cons (pe_xf T.xf_InvalidPoint T.xn_InvalidPoint_value hz hf (pv 3)) pa_nil)) (pa_cons (pe_callB (call_isX hz hf) (by rfl) T.b_isinstance (by decide +kernel) (pa_cons (pv 3) (pa_cons (pe_bltn (v := .ty "ValueError") (u := .type "ValueError") (by rfl) T.b_ValueError (by decide +kernel) rfl) pa_nil))) pa_nil)))))))
      (HdA.cons (k := ⟨.ref (ga K "InvalidNumber"), 3, _⟩) ⟨rfl, rfl, .inl T.m_InvalidNumber⟩ rfl rfl (fun a oe cls d pn hz hf => (pss_one (ps_ret (pe_lst (pa_cons pe_str (pa_cons (pe_callB (call_reprVX hz (by have z := hr.g; exact z) (by have z := hu99 hr; exact z)) (by rfl) T.b_repr (by decide +kernel) (pa_cons (pe_xf T.xf_InvalidNumber T.xn_InvalidNumber_value hz hf (pv 3)) pa_nil)) (pa_cons (pe_callB (call_isX hz hf) (by rfl) T.b_isinstance (by decide +kernel) (pa_cons (pv 3) (pa_cons (pe_bltn (v := .ty "ValueError") (u := .type "ValueError") (by rfl) T.b_ValueError (by decide +kernel) rfl) pa_nil))) pa_nil)))))))
      HdA.nil))))), ?_⟩
    walk_at "nm"
    refine ⟨_, rfl, x0, d0, fs0, rfl, hx0, hl0, ?_⟩
    walk_at "nm"
    refine h _ _ (fun cls d H' hx σ' hl => ?_) fun v H' q => ⟨by rw [sizeLine_eq]; decide, fun r hr => q r hr⟩
    obtain ⟨s0, s1, s2, s3, rfl⟩ : ∃ s0 s1 s2 s3, σ' = [s0, s1, s2, s3] := match σ', hl with
      | [s0, s1, s2, s3], _ => ⟨s0, s1, s2, s3, rfl⟩
    rcases hx with ⟨dd, v_value, z_value, rfl, rfl, hd, hz_value, q⟩ | ⟨dd, v_value, z_value, rfl, rfl, hd, hz_value, q⟩
    · refine ⟨true, T.em_InvalidPoint_InvalidPoint, fun _ a ha => ?_, fun z => by cases z⟩
      first | refine ⟨_, rfl, rfl, rfl, dd, _, _, rfl, hd, (by walk_at "lk"), ?_⟩ | refine ⟨_, rfl, rfl, rfl, dd, rfl, _, hd, _, (by walk_at "lk"), ?_⟩
      refine ⟨_, _, rfl, hz_value, ?_⟩
      refine ⟨_, rfl, _, dd, _, _, _, _, rfl, rfl, hd, T.xc_InvalidPoint, rfl, .ty "ValueError", T.xk_InvalidPoint, ?_⟩
      exact ⟨by rw [sizeLine_eq]; first | decide | simp, fun r hr => q r hr⟩
    · refine ⟨false, T.em_InvalidNumber_InvalidPoint, (fun z => by cases z), fun _ => ⟨true, T.em_InvalidNumber_InvalidNumber, fun _ a ha => ?_, fun z => by cases z⟩⟩
      first | refine ⟨_, rfl, rfl, rfl, dd, _, _, rfl, hd, (by walk_at "lk"), ?_⟩ | refine ⟨_, rfl, rfl, rfl, dd, rfl, _, hd, _, (by walk_at "lk"), ?_⟩
      refine ⟨_, _, rfl, hz_value, ?_⟩
      refine ⟨_, rfl, _, dd, _, _, _, _, rfl, rfl, hd, T.xc_InvalidNumber, rfl, .ty "ValueError", T.xk_InvalidNumber, ?_⟩
      exact ⟨by rw [sizeLine_eq]; first | decide | simp, fun r hr => q r hr⟩

section
variable {K : Frag} {H : Hp} {Q : VK} {E : XK}
theorem out__law_owner_told_InvalidPoint {v_value : V} {z_value : Str} (hE : ∀ cls d H', xRef__law_owner_told K Q cls d H' → E cls d H') (hz_value : ∀ H', Same H H' → Rp K H' v_value z_value) (q : ∀ H' r, Same H H' → H r = none → H' r = some (.lst [.str "point", .str z_value, .bl true]) → Q (.ref r) H') : Out1 K E H "InvalidPoint" "value" v_value := fun H2 d s2 hd => hE _ _ _ (.inl ⟨d, v_value, z_value, rfl, rfl, hd, hz_value H2 s2, fun r hr => q _ r (s2.trans (Same.upd (Same.refl _) hr)) (s2.free hr) upd_same⟩)
theorem out__law_owner_told_InvalidNumber {v_value : V} {z_value : Str} (hE : ∀ cls d H', xRef__law_owner_told K Q cls d H' → E cls d H') (hz_value : ∀ H', Same H H' → Rp K H' v_value z_value) (q : ∀ H' r, Same H H' → H r = none → H' r = some (.lst [.str "number", .str z_value, .bl true]) → Q (.ref r) H') : Out1 K E H "InvalidNumber" "value" v_value := fun H2 d s2 hd => hE _ _ _ (.inr ⟨d, v_value, z_value, rfl, rfl, hd, hz_value H2 s2, fun r hr => q _ r (s2.trans (Same.upd (Same.refl _) hr)) (s2.free hr) upd_same⟩)
end

theorem paired_getR {α β : Type} {R : α → β → Prop} : ∀ {xs : List α} {ys : List β} {n : Nat} {b : β}, Paired R xs ys → ys[n]? = some b → ∃ a, xs[n]? = some a ∧ R a b
  | _, _, 0, _, .cons h _, e => by
    cases e
    exact ⟨_, rfl, h⟩
  | _, _, n + 1, _, .cons _ r, e => paired_getR (n := n) r e
/-- the good period's parts -/
def goodV (ar : Addr) : List V := [.int 1, .ref ar, .str (Str.ofString "x"), .int 1, .int 0, .non]
def smallB : Kn → Bool
  | .str z => decide (z.length ≤ 1000000)
  | _ => true
/-- what makes it none, at a place -/
def badK : Nat → Kn → Bool
  | 0, k => !k.least 1
  | 1, .ins _ _ => false
  | 1, _ => true
  | 2, k => !k.isName && smallB k
  | 3, k => !k.least 1
  | 4, k => !k.least 0
  | 5, k => !untilOk k (.int 0)
  | _, _ => false
theorem bad_at {K : Frag} {G : Hp} {t ar dx : Addr} {fs : List (Str × V)} {i : Nat} {x : V} {k : Kn} (c : OwnC K (ga K "Arc")) (hi : i < 6) (e : G t = some (.tup ((goodV ar).set i x))) (ha : G ar = some (.ins (ga K "Arc") dx fs)) (h : Is K G x k) (hk : badK i k = true) : PrV K G (.ref t) false := by
  have z2 : (Kn.str (Str.ofString "x")).small := show (Str.ofString "x").length ≤ 1000000 by decide +kernel
  rcases (show i = 0 ∨ i = 1 ∨ i = 2 ∨ i = 3 ∨ i = 4 ∨ i = 5 by omega) with rfl | rfl | rfl | rfl | rfl | rfl
  · have p := PrV.six e h (.ins ha c) (.str _) (.int 1) (.int 0) .non (fun a D z => by cases z; rfl) z2
    have q : k.least 1 = false := by simpa [badK] using hk
    rwa [show prK (ga K "Arc") k (.ins ar (ga K "Arc")) (.str (Str.ofString "x")) (.int 1) (.int 0) .non = false by unfold prK; rw [q]; simp] at p
  · have nD : ∀ a D, k ≠ .ins a D := fun a D z => by
      rw [z] at hk
      cases hk
    have p := PrV.six e (.int 1) h (.str _) (.int 1) (.int 0) .non (fun a D z => absurd z (nD a D)) z2
    rwa [show prK (ga K "Arc") (.int 1) k (.str (Str.ofString "x")) (.int 1) (.int 0) .non = false by unfold prK; rw [noC nD]; rfl] at p
  · have q : k.isName = false ∧ smallB k = true := by simpa [badK] using hk
    have zk : k.small := by
      have := q.2
      cases k with
      | str z => exact of_decide_eq_true (p := z.length ≤ 1000000) this
      | _ => trivial
    have p := PrV.six e (.int 1) (.ins ha c) h (.int 1) (.int 0) .non (fun a D z => by cases z; rfl) zk
    rwa [show prK (ga K "Arc") (.int 1) (.ins ar (ga K "Arc")) k (.int 1) (.int 0) .non = false by unfold prK; rw [q.1]; simp] at p
  · have p := PrV.six e (.int 1) (.ins ha c) (.str _) h (.int 0) .non (fun a D z => by cases z; rfl) z2
    have q : k.least 1 = false := by simpa [badK] using hk
    rwa [show prK (ga K "Arc") (.int 1) (.ins ar (ga K "Arc")) (.str (Str.ofString "x")) k (.int 0) .non = false by unfold prK; rw [q]; simp] at p
  · have p := PrV.six e (.int 1) (.ins ha c) (.str _) (.int 1) h .non (fun a D z => by cases z; rfl) z2
    have q : k.least 0 = false := by simpa [badK] using hk
    rwa [show prK (ga K "Arc") (.int 1) (.ins ar (ga K "Arc")) (.str (Str.ofString "x")) (.int 1) k .non = false by unfold prK; rw [q]; simp] at p
  · have p := PrV.six e (.int 1) (.ins ha c) (.str _) (.int 1) (.int 0) h (fun a D z => by cases z; rfl) z2
    have q : untilOk k (.int 0) = false := by simpa [badK] using hk
    rwa [show prK (ga K "Arc") (.int 1) (.ins ar (ga K "Arc")) (.str (Str.ofString "x")) (.int 1) (.int 0) k = false by unfold prK; rw [q]; simp] at p

def sp__law_bad_periods (K : Frag) : Sp := fun vs H Q _ => ∃ (ar dx : Addr) (fs : List (Str × V)), vs = [.ref ar] ∧ H ar = some (.ins (ga K "Arc") dx fs) ∧ ∀ G l us, Same H G → G l = some (.lst us) → us.length ≤ 100 → (∀ u ∈ us, PrV K G u false) → Q (.ref l) G
theorem sc__law_bad_periods : FnScope ["_law_arc", "_law_good", "_law_menu", "_law_found", "_law_at", "_law_part"] ["_law_arc"] (defScope s__law_bad_periods) := ⟨rfl, rfl, rfl, by decide +kernel, rfl, by decide +kernel, by decide +kernel⟩
theorem ok__law_bad_periods {P : Program} {w : World} {K : Frag} {mg : Str → Option Value} {base : Heap} (T : Txt K mg) : FnB P w K mg base 1 (glA "_law_bad_periods" K) (sp__law_bad_periods K) := by
  refine okD (N := ["_law_arc", "_law_good", "_law_menu", "_law_found", "_law_at", "_law_part"]) (ps := ["_law_arc"]) (k := 0) (d := g__law_bad_periods) T.d__law_bad_periods rfl sc__law_bad_periods (fun vs H Q E h => ?_) (fun _ _ _ _ _ _ us hl => match us, hl with | [_], _ => rfl) (fun A outer s H vs Q E hr h => ?_)
  · obtain ⟨ar, dx, fs, rfl, har, q⟩ := h
    rfl
  · have hu := hr.hu
    obtain ⟨ar, dx, fs, rfl, har, q⟩ := h
    refine ⟨_, PSs.nox ((pss_cons (ps_set (i := 1) sc__law_bad_periods.nd rfl (Or.inr rfl) (pe_tup (pa_cons pe_int (pa_cons (pv 0) (pa_cons pe_str (pa_cons pe_int (pa_cons pe_int (pa_cons pe_non pa_nil))))))))
      (pss_cons (ps_set (i := 2) sc__law_bad_periods.nd rfl (Or.inl rfl) (pe_lst (pa_cons (pe_lst (pa_cons pe_int (pa_cons pe_bl (pa_cons pe_non (pa_cons pe_str (pa_cons (pe_un un_neg pe_int) pa_nil)))))) (pa_cons (pe_lst (pa_cons pe_non (pa_cons (pe_tup (pa_cons pe_int (pa_cons pe_int pa_nil))) (pa_cons pe_str pa_nil)))) (pa_cons (pe_lst (pa_cons pe_str (pa_cons pe_str (pa_cons pe_str (pa_cons pe_non (pa_cons pe_int pa_nil)))))) (pa_cons (pe_lst (pa_cons pe_int (pa_cons pe_bl (pa_cons pe_non pa_nil)))) pa_nil))))))
      (pss_cons (ps_set (i := 2) sc__law_bad_periods.nd rfl (Or.inl rfl) (pe_op op_cat (pv 2) (pe_lst (pa_cons (pe_lst (pa_cons (pe_un un_neg pe_int) (pa_cons pe_bl (pa_cons pe_non (pa_cons pe_str pa_nil))))) (pa_cons (pe_lst (pa_cons pe_int (pa_cons pe_bl (pa_cons pe_str (pa_cons (pe_un un_neg pe_int) pa_nil))))) pa_nil)))))
      (pss_cons (ps_set (i := 3) sc__law_bad_periods.nd rfl (Or.inl rfl) (pe_lst (pa_cons pe_non (pa_cons pe_int (pa_cons (pe_tup pa_nil) (pa_cons (pe_slice sl_tupA (pv 1) po_none (po_some pe_int)) (pa_cons (pe_op op_catA (pv 1) (pe_tup (pa_cons pe_int pa_nil))) (pa_cons (pe_callTy call_list_of (by rfl) T.b_list (by decide +kernel) (pa_cons (pv 1) pa_nil)) pa_nil))))))))
      (pss_cons (ps_for PassesOwn.never rfl (pi_range1 (by rfl) T.b_range (pa_cons pe_int pa_nil)) (pg_name (i := 4) sc__law_bad_periods.nd rfl (Or.inr rfl))
        (pss_one (ps_set (i := 3) sc__law_bad_periods.nd rfl (Or.inl rfl) (pe_op op_cat (pv 3) (pe_lc (own := [("_law_part", 5)]) (g := gName 5) rfl sc__law_bad_periods.nd (pi_list (pe_ix ix_list (pv 2) (pv 4) (fun _ _ => rfl))) (blkOk_by (N := ["_law_arc", "_law_good", "_law_menu", "_law_found", "_law_at", "_law_part"]) (sc := defScope s__law_bad_periods) (by decide +kernel)) (fun _ _ _ _ _ => pg_name (i := 5) sc__law_bad_periods.nd rfl (Or.inl rfl)) (fun _ _ _ _ _ => pts_nil) (fun _ _ _ _ _ => (pe_op (op_catA : OpR _ _ (rCatA K)) (pe_op (op_catA : OpR _ _ (rCatA K)) (pe_slice (sl_tupA : SlR _ (rSlA K)) (pv 1) po_none (po_some (pv 4))) (pe_tup (pa_cons (pv 5) pa_nil))) (pe_slice (sl_tupA : SlR _ (rSlA K)) (pv 1) (po_some (pe_op op_add (pv 4) pe_int)) po_none))))))))
      (pss_one (ps_ret (pv 3))))))))), ?_⟩
    walk_at "nm"
    refine ⟨by rw [sizeLine_eq]; decide, fun Lp0 Ln0 => ?_⟩
    generalize hg : upd H Lp0 _ = LG0
    have Ls0 := sameOf Ln0 hg
    have Le0 : LG0 Lp0 = some (.tup [.int 1, .ref ar, .str (Str.ofString "x"), .int 1, .int 0, .non]) := atOf hg
    clear hg
    refine ⟨_, rfl, ?_⟩
    refine ⟨by rw [sizeLine_eq]; decide, fun Lp1 Ln1 => ?_⟩
    generalize hg : upd LG0 Lp1 _ = LG1
    have Ls1 := sameOf Ln1 hg
    have Le1 : LG1 Lp1 = some (.lst [.int 0, .bl true, .non, .str (Str.ofString "1"), .int (-1)]) := atOf hg
    clear hg
    refine ⟨by rw [sizeLine_eq]; decide, fun Lp2 Ln2 => ?_⟩
    generalize hg : upd LG1 Lp2 _ = LG2
    have Ls2 := sameOf Ln2 hg
    have Le2 : LG2 Lp2 = some (.tup [.int 0, .int 1]) := atOf hg
    clear hg
    refine ⟨by rw [sizeLine_eq]; decide, fun Lp3 Ln3 => ?_⟩
    generalize hg : upd LG2 Lp3 _ = LG3
    have Ls3 := sameOf Ln3 hg
    have Le3 : LG3 Lp3 = some (.lst [.non, .ref Lp2, .str (Str.ofString "arc")]) := atOf hg
    clear hg
    refine ⟨by rw [sizeLine_eq]; decide, fun Lp4 Ln4 => ?_⟩
    generalize hg : upd LG3 Lp4 _ = LG4
    have Ls4 := sameOf Ln4 hg
    have Le4 : LG4 Lp4 = some (.lst [.str (Str.ofString ""), .str (Str.ofString "X"), .str (Str.ofString "toolongname"), .non, .int 5]) := atOf hg
    clear hg
    refine ⟨by rw [sizeLine_eq]; decide, fun Lp5 Ln5 => ?_⟩
    generalize hg : upd LG4 Lp5 _ = LG5
    have Ls5 := sameOf Ln5 hg
    have Le5 : LG5 Lp5 = some (.lst [.int 0, .bl false, .non]) := atOf hg
    clear hg
    refine ⟨by rw [sizeLine_eq]; decide, fun Lp6 Ln6 => ?_⟩
    generalize hg : upd LG5 Lp6 _ = LG6
    have Ls6 := sameOf Ln6 hg
    have Le6 : LG6 Lp6 = some (.lst [.ref Lp1, .ref Lp3, .ref Lp4, .ref Lp5]) := atOf hg
    clear hg
    refine ⟨_, rfl, ?_⟩
    refine ⟨by rw [sizeLine_eq]; decide, fun Lp7 Ln7 => ?_⟩
    generalize hg : upd LG6 Lp7 _ = LG7
    have Ls7 := sameOf Ln7 hg
    have Le7 : LG7 Lp7 = some (.lst [.int (-1), .bl true, .non, .str (Str.ofString "0")]) := atOf hg
    clear hg
    refine ⟨_, rfl, ?_⟩
    refine ⟨by rw [sizeLine_eq]; decide, fun Lp8 Ln8 => ?_⟩
    generalize hg : upd LG7 Lp8 _ = LG8
    have Ls8 := sameOf Ln8 hg
    have Le8 : LG8 Lp8 = some (.lst [.int 0, .bl true, .str (Str.ofString "1"), .int (-1)]) := atOf hg
    clear hg
    refine ⟨by rw [sizeLine_eq]; decide, fun Lp9 Ln9 => ?_⟩
    generalize hg : upd LG8 Lp9 _ = LG9
    have Ls9 := sameOf Ln9 hg
    have Le9 : LG9 Lp9 = some (.lst [.ref Lp7, .ref Lp8]) := atOf hg
    clear hg
    have Le6t := ((Ls7.trans (Ls8.trans Ls9)) _ _ Le6)
    refine ⟨_, _, _, _, rfl, rfl, Le6t, Le9, (by rw [sizeLine_eq]; simp), fun Lp10 Ln10 => ?_⟩
    generalize hg : upd LG9 Lp10 _ = LG10
    have Ls10 := sameOf Ln10 hg
    have Le10 : LG10 Lp10 = some (.lst [.ref Lp1, .ref Lp3, .ref Lp4, .ref Lp5, .ref Lp7, .ref Lp8]) := atOf hg
    clear hg
    refine ⟨by rw [sizeLine_eq]; decide, fun Lp11 Ln11 => ?_⟩
    generalize hg : upd LG10 Lp11 _ = LG11
    have Ls11 := sameOf Ln11 hg
    have Le11 : LG11 Lp11 = some (.tup []) := atOf hg
    clear hg
    have Le0t := ((Ls1.trans (Ls2.trans (Ls3.trans (Ls4.trans (Ls5.trans (Ls6.trans (Ls7.trans (Ls8.trans (Ls9.trans (Ls10.trans Ls11)))))))))) _ _ Le0)
    refine ⟨_, _, rfl, SqT.of Le0t, (fun z => absurd z (show ¬ (HT.sIx 6 0 none = 0 ∧ HT.sIx 6 6 (some 5) = 6) from by decide)), fun _ Lp12 Ln12 => ?_⟩
    generalize hg : upd LG11 Lp12 _ = LG12
    have Ls12 := sameOf Ln12 hg
    have Le12 : LG12 Lp12 = some (.tup [.int 1, .ref ar, .str (Str.ofString "x"), .int 1, .int 0]) := atOf hg
    clear hg
    refine ⟨by rw [sizeLine_eq]; decide, fun Lp13 Ln13 => ?_⟩
    generalize hg : upd LG12 Lp13 _ = LG13
    have Ls13 := sameOf Ln13 hg
    have Le13 : LG13 Lp13 = some (.tup [.int 1]) := atOf hg
    clear hg
    have Le0t := ((Ls12.trans Ls13) _ _ Le0t)
    refine ⟨_, _, _, _, rfl, rfl, SqT.of Le0t, SqT.of Le13, (by rw [sizeLine_eq]; simp), (fun z => by cases z), (fun _ z => by cases z), fun _ _ Lp14 Ln14 => ?_⟩
    generalize hg : upd LG13 Lp14 _ = LG14
    have Ls14 := sameOf Ln14 hg
    have Le14 : LG14 Lp14 = some (.tup [.int 1, .ref ar, .str (Str.ofString "x"), .int 1, .int 0, .non, .int 1]) := atOf hg
    clear hg
    have Le0t := (Ls14 _ _ Le0t)
    refine ⟨_, .inr (SqT.of Le0t), fun Lp15 Ln15 => ?_⟩
    generalize hg : upd LG14 Lp15 _ = LG15
    have Ls15 := sameOf Ln15 hg
    have Le15 : LG15 Lp15 = some (.lst [.int 1, .ref ar, .str (Str.ofString "x"), .int 1, .int 0, .non]) := atOf hg
    clear hg
    refine ⟨by rw [sizeLine_eq]; decide, fun Lp16 Ln16 => ?_⟩
    generalize hg : upd LG15 Lp16 _ = LG16
    have Ls16 := sameOf Ln16 hg
    have Le16 : LG16 Lp16 = some (.lst [.non, .int 5, .ref Lp11, .ref Lp12, .ref Lp14, .ref Lp15]) := atOf hg
    clear hg
    have Le1t := ((Ls2.trans (Ls3.trans (Ls4.trans (Ls5.trans (Ls6.trans (Ls7.trans (Ls8.trans (Ls9.trans (Ls10.trans (Ls11.trans (Ls12.trans (Ls13.trans (Ls14.trans (Ls15.trans Ls16)))))))))))))) _ _ Le1)
    have Le3t := ((Ls4.trans (Ls5.trans (Ls6.trans (Ls7.trans (Ls8.trans (Ls9.trans (Ls10.trans (Ls11.trans (Ls12.trans (Ls13.trans (Ls14.trans (Ls15.trans Ls16)))))))))))) _ _ Le3)
    have Le4t := ((Ls5.trans (Ls6.trans (Ls7.trans (Ls8.trans (Ls9.trans (Ls10.trans (Ls11.trans (Ls12.trans (Ls13.trans (Ls14.trans (Ls15.trans Ls16))))))))))) _ _ Le4)
    have Le5t := ((Ls6.trans (Ls7.trans (Ls8.trans (Ls9.trans (Ls10.trans (Ls11.trans (Ls12.trans (Ls13.trans (Ls14.trans (Ls15.trans Ls16)))))))))) _ _ Le5)
    have Le7t := ((Ls8.trans (Ls9.trans (Ls10.trans (Ls11.trans (Ls12.trans (Ls13.trans (Ls14.trans (Ls15.trans Ls16)))))))) _ _ Le7)
    have Le8t := ((Ls9.trans (Ls10.trans (Ls11.trans (Ls12.trans (Ls13.trans (Ls14.trans (Ls15.trans Ls16))))))) _ _ Le8)
    have Le10t := ((Ls11.trans (Ls12.trans (Ls13.trans (Ls14.trans (Ls15.trans Ls16))))) _ _ Le10)
    have Le0t := ((Ls15.trans Ls16) _ _ Le0t)
    have Le2t := ((Ls3.trans (Ls4.trans (Ls5.trans (Ls6.trans (Ls7.trans (Ls8.trans (Ls9.trans (Ls10.trans (Ls11.trans (Ls12.trans (Ls13.trans (Ls14.trans (Ls15.trans Ls16))))))))))))) _ _ Le2)
    have Lt16 := Same.refl LG16
    have Lt15 := Ls16.trans Lt16
    have Lt14 := Ls15.trans Lt15
    have Lt13 := Ls14.trans Lt14
    have Lt12 := Ls13.trans Lt13
    have Lt11 := Ls12.trans Lt12
    have Lt10 := Ls11.trans Lt11
    have Lt9 := Ls10.trans Lt10
    have Lt8 := Ls9.trans Lt9
    have Lt7 := Ls8.trans Lt8
    have Lt6 := Ls7.trans Lt7
    have Lt5 := Ls6.trans Lt6
    have Lt4 := Ls5.trans Lt5
    have Lt3 := Ls4.trans Lt4
    have Lt2 := Ls3.trans Lt3
    have Lt1 := Ls2.trans Lt2
    have Lt0 := Ls1.trans Lt1
    have harG := (Ls0.trans Lt0) _ _ har
    have odd0 : ∀ u ∈ [V.non, V.int 5, V.ref Lp11, V.ref Lp12, V.ref Lp14, V.ref Lp15], PrV K LG16 u false := by
      intro u hu
      simp only [List.mem_cons, List.mem_nil_iff, or_false] at hu
      rcases hu with rfl | rfl | rfl | rfl | rfl | rfl
      · exact (.no .non rfl)
      · exact (.no (.int 5) rfl)
      · exact (.len (Lt11 _ _ Le11) (by simp) (by simp))
      · exact (.len (Lt12 _ _ Le12) (by simp) (by simp))
      · exact (.len (Lt14 _ _ Le14) (by simp) (by simp))
      · exact (.no (.lst (Lt15 _ _ Le15)) rfl)
    have row0 : ∀ x ∈ [V.int 0, V.bl true, V.non, V.str (Str.ofString "1"), V.int (-1)], ∃ k, Is K LG16 x k ∧ badK 0 k = true := by
      intro x hx
      simp only [List.mem_cons, List.mem_nil_iff, or_false] at hx
      rcases hx with rfl | rfl | rfl | rfl | rfl
      · exact ⟨_, .int _, by decide +kernel⟩
      · exact ⟨_, .bl _, by decide +kernel⟩
      · exact ⟨_, .non, by decide +kernel⟩
      · exact ⟨_, .str _, by decide +kernel⟩
      · exact ⟨_, .int _, by decide +kernel⟩
    have row1 : ∀ x ∈ [V.non, V.ref Lp2, V.str (Str.ofString "arc")], ∃ k, Is K LG16 x k ∧ badK 1 k = true := by
      intro x hx
      simp only [List.mem_cons, List.mem_nil_iff, or_false] at hx
      rcases hx with rfl | rfl | rfl
      · exact ⟨_, .non, by decide +kernel⟩
      · exact ⟨_, .tup Le2t, rfl⟩
      · exact ⟨_, .str _, by decide +kernel⟩
    have row2 : ∀ x ∈ [V.str (Str.ofString ""), V.str (Str.ofString "X"), V.str (Str.ofString "toolongname"), V.non, V.int 5], ∃ k, Is K LG16 x k ∧ badK 2 k = true := by
      intro x hx
      simp only [List.mem_cons, List.mem_nil_iff, or_false] at hx
      rcases hx with rfl | rfl | rfl | rfl | rfl
      · exact ⟨_, .str _, by decide +kernel⟩
      · exact ⟨_, .str _, by decide +kernel⟩
      · exact ⟨_, .str _, by decide +kernel⟩
      · exact ⟨_, .non, by decide +kernel⟩
      · exact ⟨_, .int _, by decide +kernel⟩
    have row3 : ∀ x ∈ [V.int 0, V.bl false, V.non], ∃ k, Is K LG16 x k ∧ badK 3 k = true := by
      intro x hx
      simp only [List.mem_cons, List.mem_nil_iff, or_false] at hx
      rcases hx with rfl | rfl | rfl
      · exact ⟨_, .int _, by decide +kernel⟩
      · exact ⟨_, .bl _, by decide +kernel⟩
      · exact ⟨_, .non, by decide +kernel⟩
    have row4 : ∀ x ∈ [V.int (-1), V.bl true, V.non, V.str (Str.ofString "0")], ∃ k, Is K LG16 x k ∧ badK 4 k = true := by
      intro x hx
      simp only [List.mem_cons, List.mem_nil_iff, or_false] at hx
      rcases hx with rfl | rfl | rfl | rfl
      · exact ⟨_, .int _, by decide +kernel⟩
      · exact ⟨_, .bl _, by decide +kernel⟩
      · exact ⟨_, .non, by decide +kernel⟩
      · exact ⟨_, .str _, by decide +kernel⟩
    have row5 : ∀ x ∈ [V.int 0, V.bl true, V.str (Str.ofString "1"), V.int (-1)], ∃ k, Is K LG16 x k ∧ badK 5 k = true := by
      intro x hx
      simp only [List.mem_cons, List.mem_nil_iff, or_false] at hx
      rcases hx with rfl | rfl | rfl | rfl
      · exact ⟨_, .int _, by decide +kernel⟩
      · exact ⟨_, .bl _, by decide +kernel⟩
      · exact ⟨_, .str _, by decide +kernel⟩
      · exact ⟨_, .int _, by decide +kernel⟩
    have sG := Ls0.trans Lt0
    have eM := Le10t
    have eF := Le16
    have eGd := Le0t
    generalize hMl : [V.ref Lp1, V.ref Lp3, V.ref Lp4, V.ref Lp5, V.ref Lp7, V.ref Lp8] = ml at eM
    have eR0 := Le1t
    have aR0 : ml[0]? = some (V.ref Lp1) := by rw [← hMl]; rfl
    have eR1 := Le3t
    have aR1 : ml[1]? = some (V.ref Lp3) := by rw [← hMl]; rfl
    have eR2 := Le4t
    have aR2 : ml[2]? = some (V.ref Lp4) := by rw [← hMl]; rfl
    have eR3 := Le5t
    have aR3 : ml[3]? = some (V.ref Lp5) := by rw [← hMl]; rfl
    have eR4 := Le7t
    have aR4 : ml[4]? = some (V.ref Lp7) := by rw [← hMl]; rfl
    have eR5 := Le8t
    have aR5 : ml[5]? = some (V.ref Lp8) := by rw [← hMl]; rfl
    refine ⟨6, rfl, by decide, by decide, for_range (fun i σ H' => ∃ F us v4 v5, σ = [some (.ref ar), some (.ref Lp0), some (.ref Lp10), some (.ref F), v4, v5] ∧ Same LG16 H' ∧ H' F = some (.lst us) ∧ us.length ≤ 6 + 6 * i ∧ ∀ u ∈ us, PrV K H' u false) ⟨_, _, _, _, rfl, Same.refl _, eF, by simp, odd0⟩ ?_ ?_⟩
    · rintro i σ H1 hi ⟨F, us, v4, v5, rfl, s1, e1, few, odd⟩
      dsimp only [gName]
      simp only [List.set_cons_succ, List.set_cons_zero]
      have hi6 : i < 6 := hi
      clear odd0 hi
      obtain ⟨r, xs, er, eR, row, few6⟩ : ∃ r xs, ml[i]? = some (V.ref r) ∧ LG16 r = some (.lst xs) ∧ (∀ x ∈ xs, ∃ k, Is K LG16 x k ∧ badK i k = true) ∧ xs.length ≤ 6 := by
        rcases (show i = 0 ∨ i = 1 ∨ i = 2 ∨ i = 3 ∨ i = 4 ∨ i = 5 by omega) with rfl | rfl | rfl | rfl | rfl | rfl
        · exact ⟨_, _, aR0, eR0, row0, by simp⟩
        · exact ⟨_, _, aR1, eR1, row1, by simp⟩
        · exact ⟨_, _, aR2, eR2, row2, by simp⟩
        · exact ⟨_, _, aR3, eR3, row3, by simp⟩
        · exact ⟨_, _, aR4, eR4, row4, by simp⟩
        · exact ⟨_, _, aR5, eR5, row5, by simp⟩
      dsimp only [tDrop, tAsg, gName, tSeq, tOp]
      refine ⟨_, rfl, ?_⟩
      dsimp only
      refine lc_each (P := fun G x u => ∃ t, u = .ref t ∧ G t = some (.tup ((goodV ar).set i x))) (Rl := fun G ys => G = H1 ∧ ys = xs) ?_ ?_ ?_ ?_
      · rintro G G' x u ⟨t, rfl, e⟩ k
        exact ⟨t, rfl, k _ _ e⟩
      · intro Q' q'
        refine ⟨_, rfl, _, rfl, ?_⟩
        refine ixL (SqL.of (s1 _ _ eM)) (by rw [show (0 + (i : Int)) = ((i : Nat) : Int) by omega]; exact atI_nat er) ?_
        exact q' _ _ _ (s1 _ _ eR) (by omega) ⟨rfl, rfl⟩
      · rintro G ys ⟨rfl, rfl⟩ x hx G1 Q' s2 q'
        have eg := (s1.trans s2) _ _ eGd
        refine ⟨rfl, ?_⟩
        obtain ⟨k, hk, bk⟩ := row x hx
        have big : ∀ (t : Addr) (G2 : Hp), Same G1 G2 → G2 t = some (.tup ((goodV ar).set i x)) → Q' (.ref t) G2 := fun t G2 s3 e => q' G2 _ s3 ⟨t, rfl, e⟩
        rcases (show i = 0 ∨ i = 1 ∨ i = 2 ∨ i = 3 ∨ i = 4 ∨ i = 5 by omega) with rfl | rfl | rfl | rfl | rfl | rfl
        · refine ⟨_, rfl, _, rfl, _, rfl, _, _, rfl, SqT.of eg, (fun z => absurd z (show ¬ (HT.sIx 6 0 none = 0 ∧ HT.sIx 6 6 (some (0 + ((0 : Nat) : Int))) = 6) by decide)), fun _ pa na => ?_⟩
          generalize hg : upd G1 pa _ = A1
          have spa := sameOf na hg
          have epa : A1 pa = some (.tup []) := atOf hg
          clear hg
          refine ⟨_, rfl, by rw [sizeLine_eq]; simp, fun pb nb => ?_⟩
          generalize hg : upd A1 pb _ = A2
          have spb := sameOf nb hg
          have epb : A2 pb = some (.tup [x]) := atOf hg
          clear hg
          refine ⟨_, _, _, _, rfl, rfl, SqT.of (spb _ _ epa), SqT.of epb, (by rw [sizeLine_eq]; simp), (fun _ => ?_), (fun z => absurd rfl z), (fun z => absurd rfl z)⟩
          refine ⟨_, rfl, _, rfl, _, _, rfl, rfl, _, rfl, _, _, rfl, SqT.of ((spa.trans spb) _ _ eg), (fun z => absurd z (show ¬ (HT.sIx 6 0 (some (0 + ((0 : Nat) : Int) + 1)) = 0 ∧ HT.sIx 6 6 none = 6) by decide)), fun _ pd nd => ?_⟩
          generalize hg : upd A2 pd _ = A3
          have spd := sameOf nd hg
          have epd : A3 pd = some (.tup [.ref ar, .str (Str.ofString "x"), .int 1, .int 0, .non]) := atOf hg
          clear hg
          refine ⟨_, _, _, _, rfl, rfl, SqT.of (spd _ _ epb), SqT.of epd, (by rw [sizeLine_eq]; simp), (fun z => by cases z), (fun _ z => by cases z), fun _ _ pe ne => ?_⟩
          generalize hg : upd A3 pe _ = A4
          have spe := sameOf ne hg
          have epe : A4 pe = some (.tup [x, .ref ar, .str (Str.ofString "x"), .int 1, .int 0, .non]) := atOf hg
          clear hg
          exact big pe _ (spa.trans (spb.trans (spd.trans spe))) epe
        · refine ⟨_, rfl, _, rfl, _, rfl, _, _, rfl, SqT.of eg, (fun z => absurd z (show ¬ (HT.sIx 6 0 none = 0 ∧ HT.sIx 6 6 (some (0 + ((1 : Nat) : Int))) = 6) by decide)), fun _ pa na => ?_⟩
          generalize hg : upd G1 pa _ = A1
          have spa := sameOf na hg
          have epa : A1 pa = some (.tup [.int 1]) := atOf hg
          clear hg
          refine ⟨_, rfl, by rw [sizeLine_eq]; simp, fun pb nb => ?_⟩
          generalize hg : upd A1 pb _ = A2
          have spb := sameOf nb hg
          have epb : A2 pb = some (.tup [x]) := atOf hg
          clear hg
          refine ⟨_, _, _, _, rfl, rfl, SqT.of (spb _ _ epa), SqT.of epb, (by rw [sizeLine_eq]; simp), (fun z => by cases z), (fun _ z => by cases z), fun _ _ pc nc => ?_⟩
          generalize hg : upd A2 pc _ = A3
          have spc := sameOf nc hg
          have epc : A3 pc = some (.tup [.int 1, x]) := atOf hg
          clear hg
          refine ⟨_, rfl, _, rfl, _, _, rfl, rfl, _, rfl, _, _, rfl, SqT.of ((spa.trans (spb.trans spc)) _ _ eg), (fun z => absurd z (show ¬ (HT.sIx 6 0 (some (0 + ((1 : Nat) : Int) + 1)) = 0 ∧ HT.sIx 6 6 none = 6) by decide)), fun _ pd nd => ?_⟩
          generalize hg : upd A3 pd _ = A4
          have spd := sameOf nd hg
          have epd : A4 pd = some (.tup [.str (Str.ofString "x"), .int 1, .int 0, .non]) := atOf hg
          clear hg
          refine ⟨_, _, _, _, rfl, rfl, SqT.of (spd _ _ epc), SqT.of epd, (by rw [sizeLine_eq]; simp), (fun z => by cases z), (fun _ z => by cases z), fun _ _ pe ne => ?_⟩
          generalize hg : upd A4 pe _ = A5
          have spe := sameOf ne hg
          have epe : A5 pe = some (.tup [.int 1, x, .str (Str.ofString "x"), .int 1, .int 0, .non]) := atOf hg
          clear hg
          exact big pe _ (spa.trans (spb.trans (spc.trans (spd.trans spe)))) epe
        · refine ⟨_, rfl, _, rfl, _, rfl, _, _, rfl, SqT.of eg, (fun z => absurd z (show ¬ (HT.sIx 6 0 none = 0 ∧ HT.sIx 6 6 (some (0 + ((2 : Nat) : Int))) = 6) by decide)), fun _ pa na => ?_⟩
          generalize hg : upd G1 pa _ = A1
          have spa := sameOf na hg
          have epa : A1 pa = some (.tup [.int 1, .ref ar]) := atOf hg
          clear hg
          refine ⟨_, rfl, by rw [sizeLine_eq]; simp, fun pb nb => ?_⟩
          generalize hg : upd A1 pb _ = A2
          have spb := sameOf nb hg
          have epb : A2 pb = some (.tup [x]) := atOf hg
          clear hg
          refine ⟨_, _, _, _, rfl, rfl, SqT.of (spb _ _ epa), SqT.of epb, (by rw [sizeLine_eq]; simp), (fun z => by cases z), (fun _ z => by cases z), fun _ _ pc nc => ?_⟩
          generalize hg : upd A2 pc _ = A3
          have spc := sameOf nc hg
          have epc : A3 pc = some (.tup [.int 1, .ref ar, x]) := atOf hg
          clear hg
          refine ⟨_, rfl, _, rfl, _, _, rfl, rfl, _, rfl, _, _, rfl, SqT.of ((spa.trans (spb.trans spc)) _ _ eg), (fun z => absurd z (show ¬ (HT.sIx 6 0 (some (0 + ((2 : Nat) : Int) + 1)) = 0 ∧ HT.sIx 6 6 none = 6) by decide)), fun _ pd nd => ?_⟩
          generalize hg : upd A3 pd _ = A4
          have spd := sameOf nd hg
          have epd : A4 pd = some (.tup [.int 1, .int 0, .non]) := atOf hg
          clear hg
          refine ⟨_, _, _, _, rfl, rfl, SqT.of (spd _ _ epc), SqT.of epd, (by rw [sizeLine_eq]; simp), (fun z => by cases z), (fun _ z => by cases z), fun _ _ pe ne => ?_⟩
          generalize hg : upd A4 pe _ = A5
          have spe := sameOf ne hg
          have epe : A5 pe = some (.tup [.int 1, .ref ar, x, .int 1, .int 0, .non]) := atOf hg
          clear hg
          exact big pe _ (spa.trans (spb.trans (spc.trans (spd.trans spe)))) epe
        · refine ⟨_, rfl, _, rfl, _, rfl, _, _, rfl, SqT.of eg, (fun z => absurd z (show ¬ (HT.sIx 6 0 none = 0 ∧ HT.sIx 6 6 (some (0 + ((3 : Nat) : Int))) = 6) by decide)), fun _ pa na => ?_⟩
          generalize hg : upd G1 pa _ = A1
          have spa := sameOf na hg
          have epa : A1 pa = some (.tup [.int 1, .ref ar, .str (Str.ofString "x")]) := atOf hg
          clear hg
          refine ⟨_, rfl, by rw [sizeLine_eq]; simp, fun pb nb => ?_⟩
          generalize hg : upd A1 pb _ = A2
          have spb := sameOf nb hg
          have epb : A2 pb = some (.tup [x]) := atOf hg
          clear hg
          refine ⟨_, _, _, _, rfl, rfl, SqT.of (spb _ _ epa), SqT.of epb, (by rw [sizeLine_eq]; simp), (fun z => by cases z), (fun _ z => by cases z), fun _ _ pc nc => ?_⟩
          generalize hg : upd A2 pc _ = A3
          have spc := sameOf nc hg
          have epc : A3 pc = some (.tup [.int 1, .ref ar, .str (Str.ofString "x"), x]) := atOf hg
          clear hg
          refine ⟨_, rfl, _, rfl, _, _, rfl, rfl, _, rfl, _, _, rfl, SqT.of ((spa.trans (spb.trans spc)) _ _ eg), (fun z => absurd z (show ¬ (HT.sIx 6 0 (some (0 + ((3 : Nat) : Int) + 1)) = 0 ∧ HT.sIx 6 6 none = 6) by decide)), fun _ pd nd => ?_⟩
          generalize hg : upd A3 pd _ = A4
          have spd := sameOf nd hg
          have epd : A4 pd = some (.tup [.int 0, .non]) := atOf hg
          clear hg
          refine ⟨_, _, _, _, rfl, rfl, SqT.of (spd _ _ epc), SqT.of epd, (by rw [sizeLine_eq]; simp), (fun z => by cases z), (fun _ z => by cases z), fun _ _ pe ne => ?_⟩
          generalize hg : upd A4 pe _ = A5
          have spe := sameOf ne hg
          have epe : A5 pe = some (.tup [.int 1, .ref ar, .str (Str.ofString "x"), x, .int 0, .non]) := atOf hg
          clear hg
          exact big pe _ (spa.trans (spb.trans (spc.trans (spd.trans spe)))) epe
        · refine ⟨_, rfl, _, rfl, _, rfl, _, _, rfl, SqT.of eg, (fun z => absurd z (show ¬ (HT.sIx 6 0 none = 0 ∧ HT.sIx 6 6 (some (0 + ((4 : Nat) : Int))) = 6) by decide)), fun _ pa na => ?_⟩
          generalize hg : upd G1 pa _ = A1
          have spa := sameOf na hg
          have epa : A1 pa = some (.tup [.int 1, .ref ar, .str (Str.ofString "x"), .int 1]) := atOf hg
          clear hg
          refine ⟨_, rfl, by rw [sizeLine_eq]; simp, fun pb nb => ?_⟩
          generalize hg : upd A1 pb _ = A2
          have spb := sameOf nb hg
          have epb : A2 pb = some (.tup [x]) := atOf hg
          clear hg
          refine ⟨_, _, _, _, rfl, rfl, SqT.of (spb _ _ epa), SqT.of epb, (by rw [sizeLine_eq]; simp), (fun z => by cases z), (fun _ z => by cases z), fun _ _ pc nc => ?_⟩
          generalize hg : upd A2 pc _ = A3
          have spc := sameOf nc hg
          have epc : A3 pc = some (.tup [.int 1, .ref ar, .str (Str.ofString "x"), .int 1, x]) := atOf hg
          clear hg
          refine ⟨_, rfl, _, rfl, _, _, rfl, rfl, _, rfl, _, _, rfl, SqT.of ((spa.trans (spb.trans spc)) _ _ eg), (fun z => absurd z (show ¬ (HT.sIx 6 0 (some (0 + ((4 : Nat) : Int) + 1)) = 0 ∧ HT.sIx 6 6 none = 6) by decide)), fun _ pd nd => ?_⟩
          generalize hg : upd A3 pd _ = A4
          have spd := sameOf nd hg
          have epd : A4 pd = some (.tup [.non]) := atOf hg
          clear hg
          refine ⟨_, _, _, _, rfl, rfl, SqT.of (spd _ _ epc), SqT.of epd, (by rw [sizeLine_eq]; simp), (fun z => by cases z), (fun _ z => by cases z), fun _ _ pe ne => ?_⟩
          generalize hg : upd A4 pe _ = A5
          have spe := sameOf ne hg
          have epe : A5 pe = some (.tup [.int 1, .ref ar, .str (Str.ofString "x"), .int 1, x, .non]) := atOf hg
          clear hg
          exact big pe _ (spa.trans (spb.trans (spc.trans (spd.trans spe)))) epe
        · refine ⟨_, rfl, _, rfl, _, rfl, _, _, rfl, SqT.of eg, (fun z => absurd z (show ¬ (HT.sIx 6 0 none = 0 ∧ HT.sIx 6 6 (some (0 + ((5 : Nat) : Int))) = 6) by decide)), fun _ pa na => ?_⟩
          generalize hg : upd G1 pa _ = A1
          have spa := sameOf na hg
          have epa : A1 pa = some (.tup [.int 1, .ref ar, .str (Str.ofString "x"), .int 1, .int 0]) := atOf hg
          clear hg
          refine ⟨_, rfl, by rw [sizeLine_eq]; simp, fun pb nb => ?_⟩
          generalize hg : upd A1 pb _ = A2
          have spb := sameOf nb hg
          have epb : A2 pb = some (.tup [x]) := atOf hg
          clear hg
          refine ⟨_, _, _, _, rfl, rfl, SqT.of (spb _ _ epa), SqT.of epb, (by rw [sizeLine_eq]; simp), (fun z => by cases z), (fun _ z => by cases z), fun _ _ pc nc => ?_⟩
          generalize hg : upd A2 pc _ = A3
          have spc := sameOf nc hg
          have epc : A3 pc = some (.tup [.int 1, .ref ar, .str (Str.ofString "x"), .int 1, .int 0, x]) := atOf hg
          clear hg
          refine ⟨_, rfl, _, rfl, _, _, rfl, rfl, _, rfl, _, _, rfl, SqT.of ((spa.trans (spb.trans spc)) _ _ eg), (fun z => absurd z (show ¬ (HT.sIx 6 0 (some (0 + ((5 : Nat) : Int) + 1)) = 0 ∧ HT.sIx 6 6 none = 6) by decide)), fun _ pd nd => ?_⟩
          generalize hg : upd A3 pd _ = A4
          have spd := sameOf nd hg
          have epd : A4 pd = some (.tup []) := atOf hg
          clear hg
          refine ⟨_, _, _, _, rfl, rfl, SqT.of (spd _ _ epc), SqT.of epd, (by rw [sizeLine_eq]; simp), (fun z => by cases z), (fun _ _ => ?_), (fun _ z => absurd rfl z)⟩
          exact big pc _ (spa.trans (spb.trans (spc.trans spd))) (spd _ _ epc)
      · rintro G ys G1 D ws ⟨rfl, rfl⟩ s2 nD eD pr
        have lw := pr.length
        refine ⟨_, _, _, _, rfl, rfl, s2 _ _ e1, eD, (by rw [sizeLine_eq]; omega), fun p np => ?_⟩
        generalize hg : upd G1 p _ = G2
        have s3 := sameOf np hg
        have e3 := atOf hg
        clear hg
        refine ⟨p, us ++ ws, _, _, rfl, (s1.trans s2).trans s3, e3, (by rw [List.length_append]; omega), fun u hu => ?_⟩
        rcases List.mem_append.mp hu with h | h
        · exact (odd u h).same (s2.trans s3)
        · obtain ⟨n, hn⟩ := List.mem_iff_getElem?.mp h
          obtain ⟨x, hx', t, rfl, et⟩ := paired_getR pr hn
          have hx := List.mem_of_getElem? hx'
          obtain ⟨k, hk, bk⟩ := row x hx
          have sk := (s1.trans s2).trans s3
          exact bad_at T.o_Arc hi6 (s3 _ _ et) (sk _ _ harG) (hk.same sk) bk
    · rintro σ H1 ⟨F, us, v4, v5, rfl, s1, e1, few, odd⟩
      walk_at "nm"
      exact q _ _ _ (sG.trans s1) e1 (by have : (6 : Int).toNat = 6 := rfl; omega) odd

/-- the things that stand through the law -/
structure Fx (K : Frag) (H : Hp) (m aa gd rc : Addr) : Prop where
  m : ∃ d fs, H m = some (.ins (ga K "Mixing") d fs)
  ar : ∃ d fs, H aa = some (.ins (ga K "Arc") d fs)
  gd : H gd = some (.tup (goodV aa))
  rc : ∃ d fs, H rc = some (.ins (ga K "Records") d fs) ∧ fs.lookup ("owner_at" : Str) = none
theorem Fx.ext {K : Frag} {H H' : Hp} {m ar gd rc : Addr} (f : Fx K H m ar gd rc) (e : LamX.ExtN H H') : Fx K H' m ar gd rc := by
  obtain ⟨⟨d1, f1, h1⟩, ⟨d2, f2, h2⟩, h3, ⟨d4, f4, h4, h5⟩⟩ := f
  exact ⟨⟨d1, f1, e _ _ h1 (fun ps z => by cases z)⟩, ⟨d2, f2, e _ _ h2 (fun ps z => by cases z)⟩, e _ _ h3 (fun ps z => by cases z), ⟨d4, f4, e _ _ h4 (fun ps z => by cases z), h5⟩⟩
theorem Fx.same {K : Frag} {H H' : Hp} {m ar gd rc : Addr} (f : Fx K H m ar gd rc) (e : Same H H') : Fx K H' m ar gd rc := f.ext (.of e)
theorem Fx.good {K : Frag} {H : Hp} {m ar gd rc : Addr} (f : Fx K H m ar gd rc) (c : OwnC K (ga K "Arc")) : PrV K H (.ref gd) true := by
  obtain ⟨d, fs, ha⟩ := f.ar
  have p := PrV.six f.gd (.int 1) (.ins ha c) (.str _) (.int 1) (.int 0) .non (fun a D z => by cases z; rfl) (show (Str.ofString "x").length ≤ 1000000 by decide +kernel)
  rwa [show prK (ga K "Arc") (.int 1) (.ins ar (ga K "Arc")) (.str (Str.ofString "x")) (.int 1) (.int 0) .non = true by show (decide (ga K "Arc" = ga K "Arc") && _) = true; rw [decide_eq_true rfl]; decide +kernel] at p
section
variable {K : Frag} {H : Hp} {m ar gd rc : Addr} {Q : VK} {EE : XK} {od x y : V} {k kx ky : Kn} {z : Str}
/-! _law_told, by what is wrong -/
theorem tell_pos (f : Fx K H m ar gd rc) (c : OwnC K (ga K "Mixing")) {l : Addr} {us : List V} {j : Nat} (hl : H l = some (.lst us)) (few : us.length ≤ 1000) (o : OddPr K H us j)
    (q : ∀ H' r, Same H H' → H r = none → H' r = some (.lst [.str (Str.ofString "records"), .int (j : Nat), .bl true]) → Q (.ref r) H') : sp__law_told K [.int 0, .ref m, .ref l, .int 0] H Q EE := by
  obtain ⟨d, fs, hm⟩ := f.m
  exact ⟨_, _, _, _, rfl, fun E Q' hE hT => ⟨0, _, _, _, rfl, .inl ⟨rfl, _, _, .ins hm c, (fun a D e => by cases e; rfl), .lst hl, .inr (.inr ⟨decide_eq_true rfl, l, us, j, rfl, hl, few, o, out__law_told_InvalidRecords hE q⟩)⟩⟩⟩
theorem tell_mix (h : Is K H od k) (n : ∀ a D, k ≠ .ins a D) (hy : Is K H y ky) (hz : ∀ H', Same H H' → Rp K H' od z)
    (q : ∀ H' r, Same H H' → H r = none → H' r = some (.lst [.str (Str.ofString "mixing"), .str z, .bl true]) → Q (.ref r) H') : sp__law_told K [.int 0, od, y, x] H Q EE :=
  ⟨_, _, _, _, rfl, fun E Q' hE hT => ⟨0, _, _, _, rfl, .inl ⟨rfl, _, _, h, (fun a D e => absurd e (n a D)), hy, .inl ⟨noC n, out__law_told_InvalidMixing hE hz q⟩⟩⟩⟩
theorem tell_store (h : Is K H od k) (n : ∀ a D, k ≠ .ins a D) (hz : ∀ H', Same H H' → Rp K H' od z)
    (q : ∀ H' r, Same H H' → H r = none → H' r = some (.lst [.str (Str.ofString "store"), .str z, .bl true]) → Q (.ref r) H') : sp__law_told K [.int 1, od, y, x] H Q EE :=
  ⟨_, _, _, _, rfl, fun E Q' hE hT => ⟨1, _, _, _, rfl, .inr (.inl ⟨rfl, _, h, n, out__law_told_InvalidStore hE hz q⟩)⟩⟩
theorem tell_rec {d : Int} (hd : 2 ≤ d ∧ d ≤ 5) (h : Is K H od k) (n : ∀ a D, k ≠ .ins a D)
    (q : ∀ H' r, Same H H' → H r = none → H' r = some (.lst [.str (Str.ofString "records"), .non, .bl true]) → Q (.ref r) H') : sp__law_told K [.int d, od, od, od] H Q EE := by
  refine ⟨_, _, _, _, rfl, fun E Q' hE hT => ⟨d, _, _, _, rfl, ?_⟩⟩
  have o := out__law_told_InvalidRecords (K := K) (E := E) hE q
  rcases (show d = 2 ∨ d = 3 ∨ d = 4 ∨ d = 5 by omega) with rfl | rfl | rfl | rfl
  · exact .inr (.inr (.inl ⟨rfl, _, h, n, o⟩))
  · exact .inr (.inr (.inr (.inl ⟨.inl rfl, k, k, k, .inl ⟨h, n, o⟩⟩)))
  · exact .inr (.inr (.inr (.inl ⟨.inr rfl, k, k, k, .inl ⟨h, n, o⟩⟩)))
  · exact .inr (.inr (.inr (.inr ⟨rfl, k, k, k, .inl ⟨h, n, o⟩⟩)))
theorem tell_arc {d : Int} (hd : 3 ≤ d ∧ d ≤ 5) (f : Fx K H m ar gd rc) (c : OwnC K (ga K "Records")) (h : Is K H od k) (n : ∀ a D, k ≠ .ins a D)
    (q : ∀ H' r, Same H H' → H r = none → H' r = some (.lst [.str (Str.ofString "arc"), .non, .non, .bl true]) → Q (.ref r) H') : sp__law_told K [.int d, .ref rc, od, od] H Q EE := by
  refine ⟨_, _, _, _, rfl, fun E Q' hE hT => ⟨d, _, _, _, rfl, ?_⟩⟩
  have o := out__law_told_InvalidArc (K := K) (E := E) hE q
  obtain ⟨dr, fr, hr, _⟩ := f.rc
  rcases (show d = 3 ∨ d = 4 ∨ d = 5 by omega) with rfl | rfl | rfl
  · exact .inr (.inr (.inr (.inl ⟨.inl rfl, _, k, k, .inr (.inl ⟨rc, rfl, .ins hr c, h, n, o⟩)⟩)))
  · exact .inr (.inr (.inr (.inl ⟨.inr rfl, _, k, k, .inr (.inl ⟨rc, rfl, .ins hr c, h, n, o⟩)⟩)))
  · exact .inr (.inr (.inr (.inr ⟨rfl, _, k, k, .inr (.inl ⟨rc, rfl, .ins hr c, h, n, o⟩)⟩)))
theorem tell_recN (f : Fx K H m ar gd rc) (c : OwnC K (ga K "Mixing")) (h : Is K H od k) (e : k.isT "list" = false)
    (q : ∀ H' r, Same H H' → H r = none → H' r = some (.lst [.str (Str.ofString "records"), .non, .bl true]) → Q (.ref r) H') : sp__law_told K [.int 0, .ref m, od, .int 0] H Q EE := by
  obtain ⟨d, fs, hm⟩ := f.m
  exact ⟨_, _, _, _, rfl, fun E Q' hE hT => ⟨0, _, _, _, rfl, .inl ⟨rfl, _, _, .ins hm c, (fun a D e => by cases e; rfl), h, .inr (.inl ⟨decide_eq_true rfl, e, out__law_told_InvalidRecords hE q⟩)⟩⟩⟩
theorem tell_rcp {d : Int} (hd : 3 ≤ d ∧ d ≤ 4) (f : Fx K H m ar gd rc) (c : OwnC K (ga K "Records")) (c2 : OwnC K (ga K "Arc")) (h : Is K H od k) (e : k.isT "list" = false)
    (q : ∀ H' r, Same H H' → H r = none → H' r = some (.lst [.str (Str.ofString "receipts"), .non, .bl true]) → Q (.ref r) H') : sp__law_told K [.int d, .ref rc, .ref ar, od] H Q EE := by
  refine ⟨_, _, _, _, rfl, fun E Q' hE hT => ⟨d, _, _, _, rfl, ?_⟩⟩
  have o := out__law_told_InvalidReceipts (K := K) (E := E) hE q
  obtain ⟨dr, fr, hr, _⟩ := f.rc
  obtain ⟨da, fa, ha⟩ := f.ar
  rcases (show d = 3 ∨ d = 4 by omega) with rfl | rfl
  · exact .inr (.inr (.inr (.inl ⟨.inl rfl, _, _, k, .inr (.inr ⟨rc, ar, rfl, .ins hr c, rfl, .ins ha c2, h, e, o⟩)⟩)))
  · exact .inr (.inr (.inr (.inl ⟨.inr rfl, _, _, k, .inr (.inr ⟨rc, ar, rfl, .ins hr c, rfl, .ins ha c2, h, e, o⟩)⟩)))
theorem tell_no (f : Fx K H m ar gd rc) (c : OwnC K (ga K "Records")) (c2 : OwnC K (ga K "Arc"))
    (q : ∀ H' r, Same H H' → H r = none → H' r = some (.lst [.str (Str.ofString "told"), .bl false]) → Q (.ref r) H') : sp__law_told K [.int 5, .ref rc, .ref ar, .non] H Q EE := by
  refine ⟨_, _, _, _, rfl, fun E Q' hE hT => ⟨5, _, _, _, rfl, ?_⟩⟩
  obtain ⟨dr, fr, hr, _⟩ := f.rc
  obtain ⟨da, fa, ha⟩ := f.ar
  exact .inr (.inr (.inr (.inr ⟨rfl, _, _, _, .inr (.inr ⟨rc, ar, rfl, .ins hr c, rfl, .ins ha c2, .non, rfl, hT _ _ fun r nr => q _ r (Same.upd (Same.refl _) nr) nr upd_same⟩)⟩)))
end
/-! comprehensions that tell the same each time -/
theorem lc_told {J : It} {n : Nat} {G : Hp → Prop} {Y : Nat → Hp → V → Hp → Prop} (w : Walk J n G Y) {k : Nat} {te : TE} {vs : List Nat} {σ : L2.St} {H1 : Hp} {Qd : Hp → Prop} {D : Addr} (f : Nat → V) (its : List V) (hn : n ≤ 1000) (hD : H1 D = none)
    (hG : ∀ H', Same H1 H' → G H') (hY : ∀ i H x H', i < n → Y i H x H' → H' = H ∧ x = f i) (hw : ∀ i, wipe ((wipe σ vs).set k (some (f i))) vs = wipe σ vs)
    (he : ∀ i, i < n → ∀ H' Q', Same H1 H' → (∀ H'' r, Same H' H'' → H' r = none → H'' r = some (.lst its) → Q' (.ref r) H'') → te ((wipe σ vs).set k (some (f i))) H' Q')
    (hq : ∀ H' us, Same H1 H' → H' D = some (.lst us) → us.length = n → (∀ u ∈ us, ∃ r, u = .ref r ∧ H' r = some (.lst its)) → Qd H') :
    ∃ W : Nat → Nat → Hp → Prop, (∃ m, W 0 m (upd H1 D (.lst []))) ∧ ∀ i m H, W i m H →
      (J.stop i H ∧ Qd H) ∨ (J.go i H ∧ ∃ Nx : Hp → Prop, (∀ H', Nx H' → ∃ m', m' < m ∧ W (i + 1) m' H') ∧ ∀ x H', J.yld i H x H' → gName k x (wipe σ vs) H' fun σ2 H2 => wipe σ2 vs = wipe σ vs ∧ tYes σ2 H2 fun b H3 =>
        if b = true then te σ2 H3 fun y H4 => ∃ acc, H4 D = some (.lst acc) ∧ acc.length < sizeLine ∧ Nx (upd H4 D (.lst (acc ++ [y]))) else Nx H3) := by
  refine lc_it w (fun i H' => Same H1 H' ∧ ∃ us, H' D = some (.lst us) ∧ us.length = i ∧ ∀ u ∈ us, ∃ r, u = .ref r ∧ r ≠ D ∧ H' r = some (.lst its)) ⟨fun b o e => upd_keep e hD, [], upd_same, rfl, fun u hu => nomatch hu⟩ (fun i H' _ p => hG H' p.1) ?_ fun H' p => ?_
  · intro i x H H' hi p y
    obtain ⟨rfl, rfl⟩ := hY i H x H' hi y
    obtain ⟨s, us, eD, lu, hu⟩ := p
    refine ⟨hw i, ?_⟩
    dsimp only [tYes]
    rw [if_pos rfl]
    refine he i hi _ _ s fun H'' r s2 nr er => ⟨us, s2 _ _ eD, by rw [sizeLine_eq]; omega, ?_, us ++ [.ref r], upd_same, by rw [List.length_append, lu]; rfl, ?_⟩
    · intro b o e
      rw [upd_ne (ne_of_none e hD)]
      exact s2 b o (s b o e)
    · intro u h
      rcases List.mem_append.mp h with h | h
      · obtain ⟨r', rfl, n', e'⟩ := hu u h
        exact ⟨r', rfl, n', by rw [upd_ne n']; exact s2 _ _ e'⟩
      · obtain rfl := List.mem_singleton.mp h
        have nD : r ≠ D := fun z => by
          rw [z, eD] at nr
          cases nr
        exact ⟨r, rfl, nD, by rw [upd_ne nD]; exact er⟩
  · obtain ⟨s, us, eD, lu, hu⟩ := p
    exact hq _ us s eD lu fun u h => let ⟨r, e, _, e'⟩ := hu u h; ⟨r, e, e'⟩
theorem dpRows {K : Frag} {H : Hp} {d : PyData} : ∀ {us : List V}, (∀ u ∈ us, Dp K H u d) → DpAll K H us (List.replicate us.length d)
  | [], _ => .nil
  | u :: us, h => .cons (h u List.mem_cons_self) (dpRows fun v hv => h v (List.mem_cons_of_mem _ hv))
/-- n lists of the same items beside one list n times -/
theorem neRows {K : Frag} {H : Hp} {p r o : Addr} {us its : List V} {ds : List PyData} {n : Nat} {Q : VK} (h1 : H p = some (.lst us)) (l1 : us.length = n) (hu : ∀ u ∈ us, ∃ r, u = .ref r ∧ H r = some (.lst its)) (hd : DpAll K H its ds)
    (h2 : H r = some (.lst (List.replicate n (V.ref o)))) (h3 : H o = some (.lst its)) (hs : SeqAt.shaped (.list (List.replicate n (.list ds))) = true) (q : Q (.bl false) H) : rNeD K (.ref p) (.ref r) H Q := by
  have a : ∀ u ∈ us, Dp K H u (.list ds) := fun u h => by
    obtain ⟨r, rfl, e⟩ := hu u h
    exact .lst (SqL.of e) hd
  have b : ∀ u ∈ List.replicate n (V.ref o), Dp K H u (.list ds) := fun u h => by
    rw [(List.mem_replicate.mp h).2]
    exact .lst (SqL.of h3) hd
  have a2 := dpRows a
  have b2 := dpRows b
  rw [l1] at a2
  rw [List.length_replicate] at b2
  exact neD_same (.list (List.replicate n (.list ds))) (.lst (SqL.of h1) a2) (.lst (SqL.of h2) b2) hs q

theorem shapedZB {x z : Str} (hx : PyData.strOk x = true) (hz : PyData.strOk z = true) : SeqAt.shaped (.list [.str x, .str z, .bool true]) = true := by
  refine Bool.and_eq_true_iff.mpr ⟨?_, decide_eq_true (show max 0 (max 0 (max 0 0)) + 1 ≤ 64 by decide)⟩
  show (PyData.strOk x && (PyData.strOk z && (true && true))) = true
  rw [hz, hx]
  rfl
theorem neZB {K : Frag} {H : Hp} {a b : Addr} {x z : Str} {Q : VK} (hx : PyData.strOk x = true) (hz : PyData.strOk z = true) (h1 : H a = some (.lst [.str x, .str z, .bl true])) (h2 : H b = some (.lst [.str x, .str z, .bl true])) (q : Q (.bl false) H) : rNeD K (.ref a) (.ref b) H Q :=
  neD_same (.list [.str x, .str z, .bool true]) (.lst (SqL.of h1) (.cons (.str _) (.cons (.str _) (.cons (.bl _) .nil)))) (.lst (SqL.of h2) (.cons (.str _) (.cons (.str _) (.cons (.bl _) .nil)))) (shapedZB hx hz) q

def spLaw (K : Frag) : Sp := fun vs H Q _ => ∃ (a : Addr) (ns : List Int), vs = [.ref a] ∧ SqL K H a (ns.map V.int) ∧ ns.length ≤ 63 ∧ (∀ z ∈ ns, Builtin.Int.intBits z ≤ 1048576) ∧ (∀ p ∈ tf.map (cTA K), H p.2 = some (.tbl #[])) ∧ ∀ H', Q (.bl true) H'
abbrev sp_law := spLaw
theorem sc_law : FnScope ["_law_script", "_law_odd", "_law_k", "_law_mixing", "_law_arc", "_law_good", "_law_records", "_law_pool", "_law_point", "_law_moment", "_law_door"] ["_law_script"] (defScope s_law) := ⟨rfl, rfl, rfl, by decide +kernel, rfl, by decide +kernel, by decide +kernel⟩
theorem ok_law {P : Program} {w : World} {K : Frag} {mg : Str → Option Value} (T : Txt K mg) : LawOkT P w K mg (tf.map (cTA K)) 9 (glA "law" K) (sp_law K) := by
  refine okLawT (N := ["_law_script", "_law_odd", "_law_k", "_law_mixing", "_law_arc", "_law_good", "_law_records", "_law_pool", "_law_point", "_law_moment", "_law_door"]) (k := 8) (d := g_law) T.d_law rfl sc_law (fun _ _ _ _ _ _ us hl => match us, hl with | [_], _ => rfl) (fun base tb A outer s H vs Q E hr h => ?_)
  · have hu := hr.hu
    obtain ⟨a, ns, rfl, hS, hlen, hbits, htab, q⟩ := h
    refine ⟨_, PSs.nox ((pss_cons (ps_asg (pe_tup (pa_cons (pe_mkF T.k_Mixing (ok_Mixing_init (K := K) T) hr T.m_Mixing passL (pa_cons pe_int (pa_cons pe_int pa_nil))) (pa_cons (pe_mkF T.k_Arc (ok_Arc_init (K := K) T) hr T.m_Arc passL (pa_cons (pe_tup (pa_cons pe_int (pa_cons pe_str pa_nil))) (pa_cons (pe_tup (pa_cons pe_int (pa_cons pe_str pa_nil))) pa_nil))) pa_nil))) (pg_tup (n := 2) (by rfl) (pgs_cons (pg_name (i := 3) sc_law.nd rfl (Or.inl rfl)) (pgs_cons (pg_name (i := 4) sc_law.nd rfl (Or.inr rfl)) pgs_nil))))
      (pss_cons (ps_asg (pe_tup (pa_cons (pe_tup (pa_cons pe_int (pa_cons (pv 4) (pa_cons pe_str (pa_cons pe_int (pa_cons pe_int (pa_cons pe_non pa_nil))))))) (pa_cons (pe_mkF T.k_Records (ok_Records_init (K := K) T) hr T.m_Records passL (pa_cons (pv 3) (pa_cons (pe_lst pa_nil) pa_nil))) pa_nil))) (pg_tup (n := 2) (by rfl) (pgs_cons (pg_name (i := 5) sc_law.nd rfl (Or.inl rfl)) (pgs_cons (pg_name (i := 6) sc_law.nd rfl (Or.inr rfl)) pgs_nil))))
      (pss_cons (ps_for PassesOwn.never rfl (pi_list (pe_cF (ok__law_bad_periods (K := K) T) hr T.m__law_bad_periods passL (pa_cons (pv 4) pa_nil))) (pg_name (i := 1) sc_law.nd rfl (Or.inr rfl))
        (pss_one (ps_if (PW.pt (pw_or (pt_cmpR op_isnot_bl (pe_cF (ok_is_period (K := K) T) hr T.m_is_period passL (pa_cons (pv 1) pa_nil)) pe_bl (nomark _)) (pw_or1 (pt_cmpR (op_neD (hu64 hr)) (pe_cF (ok__law_told (K := K) T) hr T.m__law_told passL (pa_cons pe_int (pa_cons (pv 3) (pa_cons (pe_lst (pa_cons (pv 5) (pa_cons (pv 1) (pa_cons pe_non pa_nil)))) (pa_cons pe_int pa_nil))))) (pe_lst (pa_cons pe_str (pa_cons pe_int (pa_cons pe_bl pa_nil)))) (nomark _)))))
          (pss_one (ps_ret pe_bl))
          pss_nil)))
      (pss_cons (ps_for PassesOwn.never rfl (pi_range1 (by rfl) T.b_range (pa_cons (pe_callB (call_max2 rfl) (by rfl) T.b_max (by decide +kernel) (pa_cons pe_int (pa_cons (pe_callB (call_min2 rfl) (by rfl) T.b_min (by decide +kernel) (pa_cons (pe_callB call_len_seq (by rfl) T.b_len (by decide +kernel) (pa_cons (pv 0) pa_nil)) (pa_cons pe_int pa_nil))) pa_nil))) pa_nil)) (pg_name (i := 2) sc_law.nd rfl (Or.inl rfl))
        (pss_cons (ps_set (i := 7) sc_law.nd rfl (Or.inl rfl) (pe_cF (ok__law_hand (K := K) T) hr T.m__law_hand passL (pa_cons (pv 0) (pa_cons (pv 2) pa_nil))))
        (pss_cons (ps_set (i := 1) sc_law.nd rfl (Or.inr rfl) (pe_ix ix_list (pe_lst (pa_cons pe_non (pa_cons pe_int (pa_cons pe_str (pa_cons (pe_tup pa_nil) (pa_cons pe_dnewK (pa_cons (pe_lst (pa_cons pe_int pa_nil)) (pa_cons pe_bl pa_nil)))))))) (pe_cF (ok__law_draw (K := K) T) hr T.m__law_draw passL (pa_cons (pv 7) (pa_cons pe_int pa_nil))) (fun _ _ => rfl)))
        (pss_cons (ps_if (pt_cmpR (op_neD (hu64 hr)) (pe_cF (ok__law_told (K := K) T) hr T.m__law_told passL (pa_cons pe_int (pa_cons (pv 1) (pa_cons (pv 1) (pa_cons pe_int pa_nil))))) (pe_lst (pa_cons pe_str (pa_cons (pe_callB (call_reprV hr.g (hu99 hr)) (by rfl) T.b_repr (by decide +kernel) (pa_cons (pv 1) pa_nil)) (pa_cons pe_bl pa_nil)))) (nomark _))
          (pss_one (ps_ret pe_bl))
          pss_nil)
        (pss_cons (ps_if (pt_cmpR (op_neD (hu64 hr)) (pe_cF (ok__law_told (K := K) T) hr T.m__law_told passL (pa_cons pe_int (pa_cons (pv 1) (pa_cons pe_int (pa_cons pe_int pa_nil))))) (pe_lst (pa_cons pe_str (pa_cons (pe_callB (call_reprV hr.g (hu99 hr)) (by rfl) T.b_repr (by decide +kernel) (pa_cons (pv 1) pa_nil)) (pa_cons pe_bl pa_nil)))) (nomark _))
          (pss_one (ps_ret pe_bl))
          pss_nil)
        (pss_cons (ps_if (pt_cmpR (op_neD (hu64 hr)) (pe_lc (own := [("_law_door", 10)]) (g := gName 10) rfl sc_law.nd (pi_range2 (by rfl) T.b_range (pa_cons pe_int (pa_cons pe_int pa_nil))) (blkOk_by (N := ["_law_script", "_law_odd", "_law_k", "_law_mixing", "_law_arc", "_law_good", "_law_records", "_law_pool", "_law_point", "_law_moment", "_law_door"]) (sc := defScope s_law) (by decide +kernel)) (fun _ _ _ _ _ => pg_name (i := 10) sc_law.nd rfl (Or.inl rfl)) (fun _ _ _ _ _ => pts_nil) (fun _ _ _ _ _ => (pe_cF (ok__law_told (K := K) T) hr T.m__law_told passL (pa_cons (pv 10) (pa_cons (pv 1) (pa_cons (pv 1) (pa_cons (pv 1) pa_nil))))))) (pe_op op_rep (pe_lst (pa_cons (pe_lst (pa_cons pe_str (pa_cons pe_non (pa_cons pe_bl pa_nil)))) pa_nil)) pe_int) (nomark _))
          (pss_one (ps_ret pe_bl))
          pss_nil)
        (pss_cons (ps_if (pt_cmpR (op_neD (hu64 hr)) (pe_lc (own := [("_law_door", 10)]) (g := gName 10) rfl sc_law.nd (pi_tup (pe_tup (pa_cons pe_int (pa_cons pe_int (pa_cons pe_int pa_nil))))) (blkOk_by (N := ["_law_script", "_law_odd", "_law_k", "_law_mixing", "_law_arc", "_law_good", "_law_records", "_law_pool", "_law_point", "_law_moment", "_law_door"]) (sc := defScope s_law) (by decide +kernel)) (fun _ _ _ _ _ => pg_name (i := 10) sc_law.nd rfl (Or.inl rfl)) (fun _ _ _ _ _ => pts_nil) (fun _ _ _ _ _ => (pe_cF (ok__law_told (K := K) T) hr T.m__law_told passL (pa_cons (pv 10) (pa_cons (pv 6) (pa_cons (pv 1) (pa_cons (pv 1) pa_nil))))))) (pe_op op_rep (pe_lst (pa_cons (pe_lst (pa_cons pe_str (pa_cons pe_non (pa_cons pe_non (pa_cons pe_bl pa_nil))))) pa_nil)) pe_int) (nomark _))
          (pss_one (ps_ret pe_bl))
          pss_nil)
        (pss_cons (ps_set (i := 8) sc_law.nd rfl (Or.inl rfl) (pe_ix ix_list (pe_lst (pa_cons pe_non (pa_cons pe_int (pa_cons (pe_tup (pa_cons pe_int pa_nil)) (pa_cons (pe_tup (pa_cons (pe_un un_neg pe_int) (pa_cons pe_str pa_nil))) (pa_cons (pe_tup (pa_cons pe_str (pa_cons pe_str pa_nil))) (pa_cons (pe_tup (pa_cons pe_int (pa_cons pe_str pa_nil))) (pa_cons (pe_lst (pa_cons pe_int (pa_cons pe_str pa_nil))) (pa_cons (pe_tup (pa_cons (pe_op op_pow pe_int pe_int) (pa_cons pe_str pa_nil))) (pa_cons (pe_tup (pa_cons pe_bl (pa_cons pe_str pa_nil))) pa_nil)))))))))) (pe_cF (ok__law_draw (K := K) T) hr T.m__law_draw passL (pa_cons (pv 7) (pa_cons pe_int pa_nil))) (fun _ _ => rfl)))
        (pss_cons (ps_set (i := 9) sc_law.nd rfl (Or.inl rfl) (pe_ix ix_list (pe_lst (pa_cons pe_non (pa_cons (pe_un un_neg pe_int) (pa_cons pe_bl (pa_cons pe_str (pa_cons (pe_tup (pa_cons pe_int pa_nil)) pa_nil)))))) (pe_cF (ok__law_draw (K := K) T) hr T.m__law_draw passL (pa_cons (pv 7) (pa_cons pe_int pa_nil))) (fun _ _ => rfl)))
        (pss_cons (ps_if (pt_cmpR (op_neD (hu64 hr)) (pe_cF (ok__law_owner_told (K := K) T) hr T.m__law_owner_told passL (pa_cons (pv 6) (pa_cons (pv 8) (pa_cons (pv 9) pa_nil)))) (pe_lst (pa_cons pe_str (pa_cons (pe_callB (call_reprV hr.g (hu99 hr)) (by rfl) T.b_repr (by decide +kernel) (pa_cons (pv 8) pa_nil)) (pa_cons pe_bl pa_nil)))) (nomark _))
          (pss_one (ps_ret pe_bl))
          pss_nil)
        (pss_one (ps_if (pt_cmpR (op_neD (hu64 hr)) (pe_cF (ok__law_owner_told (K := K) T) hr T.m__law_owner_told passL (pa_cons (pv 6) (pa_cons (pe_tup (pa_cons pe_int (pa_cons pe_str pa_nil))) (pa_cons (pv 9) pa_nil)))) (pe_lst (pa_cons pe_str (pa_cons (pe_callB (call_reprV hr.g (hu99 hr)) (by rfl) T.b_repr (by decide +kernel) (pa_cons (pv 9) pa_nil)) (pa_cons pe_bl pa_nil)))) (nomark _))
          (pss_one (ps_ret pe_bl))
          pss_nil))))))))))))
      (pss_cons (ps_for PassesOwn.never rfl (pi_list (pe_lst (pa_cons pe_non (pa_cons (pe_tup (pa_cons (pv 5) pa_nil)) (pa_cons pe_dnewK (pa_cons pe_str (pa_cons pe_int pa_nil))))))) (pg_name (i := 1) sc_law.nd rfl (Or.inr rfl))
        (pss_cons (ps_if (pt_cmpR (op_neD (hu64 hr)) (pe_cF (ok__law_told (K := K) T) hr T.m__law_told passL (pa_cons pe_int (pa_cons (pv 3) (pa_cons (pv 1) (pa_cons pe_int pa_nil))))) (pe_lst (pa_cons pe_str (pa_cons pe_non (pa_cons pe_bl pa_nil)))) (nomark _))
          (pss_one (ps_ret pe_bl))
          pss_nil)
        (pss_one (ps_if (pt_cmpR (op_neD (hu64 hr)) (pe_lc (own := [("_law_door", 10)]) (g := gName 10) rfl sc_law.nd (pi_tup (pe_tup (pa_cons pe_int (pa_cons pe_int pa_nil)))) (blkOk_by (N := ["_law_script", "_law_odd", "_law_k", "_law_mixing", "_law_arc", "_law_good", "_law_records", "_law_pool", "_law_point", "_law_moment", "_law_door"]) (sc := defScope s_law) (by decide +kernel)) (fun _ _ _ _ _ => pg_name (i := 10) sc_law.nd rfl (Or.inl rfl)) (fun _ _ _ _ _ => pts_nil) (fun _ _ _ _ _ => (pe_cF (ok__law_told (K := K) T) hr T.m__law_told passL (pa_cons (pv 10) (pa_cons (pv 6) (pa_cons (pv 4) (pa_cons (pv 1) pa_nil))))))) (pe_op op_rep (pe_lst (pa_cons (pe_lst (pa_cons pe_str (pa_cons pe_non (pa_cons pe_bl pa_nil)))) pa_nil)) pe_int) (nomark _))
          (pss_one (ps_ret pe_bl))
          pss_nil))))
      (pss_one (ps_ret (pe_and (pe_cmpR (op_eqD (hu64 hr)) (pe_cF (ok__law_told (K := K) T) hr T.m__law_told passL (pa_cons pe_int (pa_cons (pv 6) (pa_cons (pv 4) (pa_cons pe_non pa_nil))))) (pe_lst (pa_cons pe_str (pa_cons pe_bl pa_nil))) (nomark _)) (pe_one (pe_cmpR op_is_bl (pe_cF (ok_is_period (K := K) T) hr T.m_is_period passL (pa_cons (pv 5) pa_nil)) pe_bl (nomark _)))))))))))), ?_⟩
    have t0 := tabs0 htab
    -- the mixing, the arc
    refine seq_gen (fun σ' G => ∃ m ar, σ' = [some (.ref a), none, none, some (.ref m), some (.ref ar), none, none, none, none, none, none] ∧ Same H G ∧ (∃ d fs, G m = some (.ins (ga K "Mixing") d fs)) ∧ (∃ d fs, G ar = some (.ins (ga K "Arc") d fs))) (fun N hN => ?_) ?_
    · walk_at "nm"
      refine newMix (b := 3) (n := 4) ⟨by decide, by decide, by decide, by decide⟩ (fun Q' q' => q') fun G1 m s1 nm hm => ?_
      refine newArcT (p := (0, Str.ofString "")) (r := (16, Str.ofString "")) (by decide +kernel) (by decide +kernel) (by decide +kernel) (by decide +kernel) (by decide +kernel) (fun Q' q' => ?_) fun G x dx p1 p2 s2 nx e1 e2 e3 => ?_
      · walk_at "nm"
        refine ⟨by rw [sizeLine_eq]; first | decide | simp, fun p1 n1 => ?_⟩
        generalize hg : upd _ p1 _ = G2
        have s2 := sameOf n1 hg
        have e1 := atOf hg
        clear hg
        refine ⟨by rw [sizeLine_eq]; first | decide | simp, fun p2 n2 => ?_⟩
        generalize hg : upd _ p2 _ = G3
        have s3 := sameOf n2 hg
        have e2 := atOf hg
        clear hg
        exact q' _ _ _ (s2.trans s3) (s3 _ _ e1) e2
      · refine ⟨by rw [sizeLine_eq]; first | decide | simp, fun pt nt => ?_⟩
        generalize hg : upd _ pt _ = G4
        have s4 := sameOf nt hg
        have e4 := atOf hg
        clear hg
        refine ⟨pt, _, rfl, SqT.of e4, rfl, ?_⟩
        dsimp only [gCons, gNil]
        refine ⟨_, _, rfl, ?_⟩
        dsimp only [gName]
        refine ⟨_, _, rfl, ?_⟩
        obtain ⟨dm, em⟩ := hm
        exact ⟨rfl, hN _ _ ⟨m, x, rfl, (s1.trans s2).trans s4, ⟨dm, _, (s2.trans s4) _ _ em⟩, ⟨dx, _, s4 _ _ e3⟩⟩⟩
    rintro σ' G1 ⟨m, ar, rfl, s1, hm, har⟩
    -- the good period, the records
    refine seq_gen (fun σ' G => ∃ gd rc, σ' = [some (.ref a), none, none, some (.ref m), some (.ref ar), some (.ref gd), some (.ref rc), none, none, none, none] ∧ Same H G ∧ Fx K G m ar gd rc) (fun N hN => ?_) ?_
    · walk_at "nm"
      refine ⟨by rw [sizeLine_eq]; first | decide | simp, fun gd ng => ?_⟩
      generalize hg : upd _ gd _ = G2
      have s2 := sameOf ng hg
      have e2 := atOf hg
      clear hg
      refine ⟨_, rfl, ?_⟩
      refine ⟨by rw [sizeLine_eq]; first | decide | simp, fun pl nl => ?_⟩
      generalize hg : upd _ pl _ = G3
      have s3 := sameOf nl hg
      have e3 := atOf hg
      clear hg
      intro x dx nx ndx ne
      have sx := same_made (o := .own x) (C := ga K "Records") (fs := []) nx ndx ne
      obtain ⟨d1, f1, em⟩ := hm
      obtain ⟨d2, f2, ea⟩ := har
      have k3 := (s2.trans s3).trans sx
      refine ⟨x, dx, .ref m, .ref pl, _, _, rfl, upd_same, .ins (k3 _ _ em) T.o_Mixing, (fun a D e => by cases e; rfl), .lst (sx _ _ e3), .inr (.inr (.inr ⟨decide_eq_true rfl, pl, rfl, sx _ _ e3, fun H' P hx' hP ex nP => ⟨rfl, ?_⟩⟩))⟩
      have k4 : Same G3 H' := fun c o h => ex c o (ne_of_none h nx) (sx c o h)
      refine ⟨by rw [sizeLine_eq]; first | decide | simp, fun pt nt => ?_⟩
      generalize hg : upd _ pt _ = G4
      have s4 := sameOf nt hg
      have e4 := atOf hg
      clear hg
      refine ⟨pt, _, rfl, SqT.of e4, rfl, ?_⟩
      dsimp only [gCons, gNil]
      refine ⟨_, _, rfl, ?_⟩
      dsimp only [gName]
      refine ⟨_, _, rfl, ?_⟩
      have k5 := (s2.trans s3).trans (k4.trans s4)
      exact ⟨rfl, hN _ _ ⟨gd, x, rfl, s1.trans k5, ⟨⟨d1, f1, k5 _ _ em⟩, ⟨d2, f2, k5 _ _ ea⟩, (s3.trans (k4.trans s4)) _ _ e2, ⟨dx, _, s4 _ _ hx', by walk_at "lk"; rfl⟩⟩⟩⟩
    clear hm har
    rintro σ' G2 ⟨gd, rc, rfl, s2, fx⟩
    have tb := t0.ext s2
    replace hS := seqN hS (LamX.ExtN.of s2)
    clear s1 s2 t0 htab
    -- bad periods
    refine seq_gen (fun σ' G => ∃ v1, σ' = [some (.ref a), v1, none, some (.ref m), some (.ref ar), some (.ref gd), some (.ref rc), none, none, none, none] ∧ Same G2 G) (fun N hN => ?_) ?_
    · obtain ⟨d2, f2, ea⟩ := fx.ar
      refine ⟨_, rfl, ar, d2, f2, rfl, ea, fun G3 l us s3 el few bad => ?_⟩
      refine ⟨l, rfl, ⟨_, SqL.of el⟩, for_list (K := K) (a := l) (xs := us) (fun j σ' G => (∃ v1, σ' = [some (.ref a), v1, none, some (.ref m), some (.ref ar), some (.ref gd), some (.ref rc), none, none, none, none]) ∧ Same G3 G) ⟨⟨_, rfl⟩, Same.refl _⟩ (fun j σ' G _ p => SqL.of (p.2 _ _ el)) ?_ ?_⟩
      · rintro j v σ' G4 hv ⟨⟨v1, rfl⟩, s4⟩
        dsimp only [gName]
        simp only [List.set_cons_succ, List.set_cons_zero]
        have pv := (bad v (List.mem_of_getElem? hv)).same s4
        walk_at "nm"
        refine ⟨_, false, rfl, pv, fun G5 s5 => ?_⟩
        refine ⟨_, rfl, ?_⟩
        rw [if_neg (by decide)]
        refine ⟨by rw [sizeLine_eq]; first | decide | simp, fun p6 n6 => ?_⟩
        generalize hg : upd _ p6 _ = G6
        have s6 := sameOf n6 hg
        have e6 := atOf hg
        clear hg
        have k6 := s5.trans s6
        have fx6 := fx.same ((s3.trans s4).trans k6)
        refine tell_pos fx6 T.o_Mixing (j := 1) e6 (by simp) ⟨⟨v, rfl, pv.same k6⟩, fun i hi => ?_⟩ fun G7 r s7 nr er => ?_
        · obtain rfl : i = 0 := by omega
          exact ⟨_, rfl, fx6.good T.o_Arc⟩
        refine ⟨by rw [sizeLine_eq]; first | decide | simp, fun p8 n8 => ?_⟩
        generalize hg : upd _ p8 _ = G8
        have s8 := sameOf n8 hg
        have e8 := atOf hg
        clear hg
        refine neD_same (.list [.str "records", .int 1, .bool true]) (.lst (SqL.of (s8 _ _ er)) (.cons (.str _) (.cons (.int _) (.cons (.bl _) .nil)))) (.lst (SqL.of e8) (.cons (.str _) (.cons (.int _) (.cons (.bl _) .nil)))) (by decide +kernel) ⟨_, rfl, ?_⟩
        rw [if_neg (by decide)]
        exact ⟨⟨_, rfl⟩, s4.trans (k6.trans (s7.trans s8))⟩
      · rintro σ' G4 ⟨⟨v1, rfl⟩, s4⟩
        exact hN _ _ ⟨_, rfl, s3.trans s4⟩
    rintro σ' G3 ⟨v1, rfl, s3⟩
    replace fx := fx.same s3
    replace tb := tb.ext s3
    replace hS := seqN hS (LamX.ExtN.of s3)
    clear s3
    -- the cells
    refine seq_gen (fun σ' G => ∃ v1 v2 v7 v8 v9, σ' = [some (.ref a), v1, v2, some (.ref m), some (.ref ar), some (.ref gd), some (.ref rc), v7, v8, v9, none] ∧ LamX.ExtN G3 G) (fun N hN => ?_) ?_
    · walk_at "nm"
      refine ⟨_, rfl, a, rfl, _, .inl hS, _, _, rfl, _, _, rfl, _, rfl, ?_, ?_, for_range (fun i σ G => (∃ v1 v2 v7 v8 v9, σ = [some (.ref a), v1, v2, some (.ref m), some (.ref ar), some (.ref gd), some (.ref rc), v7, v8, v9, none]) ∧ LamX.ExtN G3 G ∧ LamX.Tabs (TL K) G) ⟨⟨_, _, _, _, _, rfl⟩, .refl _, tb⟩ ?_ ?_⟩
      · split <;> split <;> omega
      · split <;> split <;> omega
      · rintro i σ H2 hi ⟨⟨u1, v2, v7, v8, v9, rfl⟩, e2, t2⟩
        have hi6 : i < 6 := by
          rw [List.length_map] at hi
          split at hi <;> split at hi <;> omega
        dsimp only [gName]
        simp only [List.set_cons_succ, List.set_cons_zero]
        generalize hk : some (V.int (0 + (i : Int))) = vk
        -- the pool
        refine seq_gen (fun σ' H' => ∃ pl, σ' = [some (.ref a), u1, vk, some (.ref m), some (.ref ar), some (.ref gd), some (.ref rc), some (.ref pl), v8, v9, none] ∧ Bs (TL K) G3 pl H') (fun N2 hN2 => ?_) ?_
        · subst hk
          walk_at "nm"
          exact ⟨a, ns, _, rfl, seqN hS e2, by omega, ⟨by omega, by omega⟩, fun H3 pl s3 npl hp3 => hN2 _ _ ⟨pl, rfl, e2.trans (.of s3), hp3, t2.ext s3, freeN e2 npl⟩⟩
        clear e2 t2
        rintro σ' H3 ⟨pl, rfl, bs⟩
        -- an odd value
        refine seq_gen (fun σ' H' => ∃ od k z, σ' = [some (.ref a), some od, vk, some (.ref m), some (.ref ar), some (.ref gd), some (.ref rc), some (.ref pl), v8, v9, none] ∧ Bs (TL K) G3 pl H' ∧ OdV K pl H' od k z ∧ (∀ a D, k ≠ .ins a D)) (fun N2 hN2 => ?_) ?_
        · walk_at "nm"
          refine ⟨by rw [sizeLine_eq]; first | decide | simp, fun p0 n0 => ?_⟩
          generalize hg : upd _ p0 _ = G0
          have s0 := sameOf n0 hg
          have h0 := atOf hg
          clear hg
          intro pd nd
          generalize hg : upd _ pd _ = Gd
          have sd := sameOf nd hg
          have hd := atOf hg
          clear hg
          refine ⟨by rw [sizeLine_eq]; first | decide | simp, fun p1 n1 => ?_⟩
          generalize hg : upd _ p1 _ = G1
          have s1 := sameOf n1 hg
          have h1 := atOf hg
          clear hg
          refine ⟨by rw [sizeLine_eq]; first | decide | simp, fun pz nz => ?_⟩
          generalize hg : upd _ pz _ = Gz
          have sz := sameOf nz hg
          have hz := atOf hg
          clear hg
          have b0 := bs.same s0
          have bd := b0.same sd
          have b1 := bd.same s1
          have bz := b1.same sz
          refine ⟨pl, 7, rfl, bz.pool, by decide, by decide, fun w G' w0 w1 hp' x' => ?_⟩
          have bw := bz.ex x' hp'
          have g0 := fun H2 (y : Nx pl G' H2) => ((Nx.same (sd.trans (s1.trans sz))).trans ((Nx.ex x').trans y)).at h0 (bs.ne n0)
          have gd := fun H2 (y : Nx pl G' H2) => ((Nx.same (s1.trans sz)).trans ((Nx.ex x').trans y)).at hd (b0.ne nd)
          have g1 := fun H2 (y : Nx pl G' H2) => ((Nx.same sz).trans ((Nx.ex x').trans y)).at h1 (bd.ne n1)
          have key : ∃ od k z, atI [V.non, V.int 5, V.str (Str.ofString "x"), V.ref p0, V.ref pd, V.ref p1, V.bl true] w = some od ∧ OdV K pl G' od k z ∧ (∀ a D, k ≠ .ins a D) := by
            rcases (show w = 0 ∨ w = 1 ∨ w = 2 ∨ w = 3 ∨ w = 4 ∨ w = 5 ∨ w = 6 by omega) with rfl | rfl | rfl | rfl | rfl | rfl | rfl
            · exact ⟨_, .non, _, rfl, .of .none (by decide +kernel) (fun H' y => ⟨.non, .non⟩), (fun a D e => nomatch e)⟩
            · exact ⟨_, .int 5, _, rfl, .of (.int 5) (by decide +kernel) (fun H' y => ⟨.int _, .int _⟩), (fun a D e => nomatch e)⟩
            · exact ⟨_, .str "x", _, rfl, .of (.str "x") (by decide +kernel) (fun H' y => ⟨.str _, .str _⟩), (fun a D e => nomatch e)⟩
            · exact ⟨_, .tup p0 _, _, rfl, .of (.tuple []) (by decide +kernel) (fun H' y => ⟨.tup (g0 H' y), .tup (SqT.of (g0 H' y)) .nil⟩), (fun a D e => nomatch e)⟩
            · exact ⟨_, .dct pd [], "{}", rfl, ⟨fun H' y => ⟨.dct (gd H' y), .edict (gd H' y)⟩, by decide +kernel⟩, (fun a D e => nomatch e)⟩
            · exact ⟨_, .lst p1 _, _, rfl, .of (.list [.int 1]) (by decide +kernel) (fun H' y => ⟨.lst (g1 H' y), .lst (SqL.of (g1 H' y)) (.cons (.int _) .nil)⟩), (fun a D e => nomatch e)⟩
            · exact ⟨_, .bl true, _, rfl, .of (.bool true) (by decide +kernel) (fun H' y => ⟨.bl _, .bl _⟩), (fun a D e => nomatch e)⟩
          obtain ⟨od, k, z, eo, ho, hk⟩ := key
          exact ixL (SqL.of (x' _ _ (b1.ne nz) hz)) eo (hN2 _ _ ⟨od, k, z, rfl, bw, ho, hk⟩)
        clear bs
        rintro σ' H4 ⟨od, k, z, rfl, bs, ho, hno⟩
        -- no mixing
        refine seq_gen (fun σ' H' => σ' = [some (.ref a), some od, vk, some (.ref m), some (.ref ar), some (.ref gd), some (.ref rc), some (.ref pl), v8, v9, none] ∧ Same H4 H') (fun N2 hN2 => ?_) ?_
        · walk_at "nm"
          refine tell_mix (ho.box _ .refl).1 hno (ho.box _ .refl).1 (fun H' s => (ho.box _ (.same s)).2) fun G7 r s7 nr er => ?_
          refine ⟨_, _, rfl, (ho.box _ (.same s7)).2, ?_⟩
          refine ⟨by rw [sizeLine_eq]; first | decide | simp, fun p8 n8 => ?_⟩
          generalize hg : upd _ p8 _ = G8
          have s8 := sameOf n8 hg
          have e8 := atOf hg
          clear hg
          refine neZB (by decide +kernel) ho.ok (s8 _ _ er) e8 ⟨_, rfl, ?_⟩
          rw [if_neg (by decide)]
          exact hN2 _ _ ⟨rfl, s7.trans s8⟩
        rintro σ' H5 ⟨rfl, s5⟩
        replace bs := bs.same s5
        replace ho := ho.nx (.same s5)
        clear s5
        -- no store
        refine seq_gen (fun σ' H' => σ' = [some (.ref a), some od, vk, some (.ref m), some (.ref ar), some (.ref gd), some (.ref rc), some (.ref pl), v8, v9, none] ∧ Same H5 H') (fun N2 hN2 => ?_) ?_
        · walk_at "nm"
          refine tell_store (ho.box _ .refl).1 hno (fun H' s => (ho.box _ (.same s)).2) fun G7 r s7 nr er => ?_
          refine ⟨_, _, rfl, (ho.box _ (.same s7)).2, ?_⟩
          refine ⟨by rw [sizeLine_eq]; first | decide | simp, fun p8 n8 => ?_⟩
          generalize hg : upd _ p8 _ = G8
          have s8 := sameOf n8 hg
          have e8 := atOf hg
          clear hg
          refine neZB (by decide +kernel) ho.ok (s8 _ _ er) e8 ⟨_, rfl, ?_⟩
          rw [if_neg (by decide)]
          exact hN2 _ _ ⟨rfl, s7.trans s8⟩
        rintro σ' H6 ⟨rfl, s5⟩
        replace bs := bs.same s5
        replace ho := ho.nx (.same s5)
        clear s5
        -- no records
        refine seq_gen (fun σ' H' => σ' = [some (.ref a), some od, vk, some (.ref m), some (.ref ar), some (.ref gd), some (.ref rc), some (.ref pl), v8, v9, none] ∧ Same H6 H') (fun N2 hN2 => ?_) ?_
        · walk_at "nm"
          refine ⟨2, 6, rfl, ⟨by decide, by decide, by decide, by decide⟩, fun D nD => ?_⟩
          refine lc_told (n := 4) walk_range (fun i => .int (2 + (i : Nat))) [.str (Str.ofString "records"), .non, .bl true] (by decide) nD (fun _ _ => trivial) (fun i H x H' _ y => y) (fun i => rfl) ?_ ?_
          · intro i hi G Q' s6 q'
            refine ⟨_, rfl, _, rfl, _, rfl, _, rfl, ?_⟩
            exact tell_rec (EE := E0) (by omega) (ho.box _ (.same s6)).1 hno q'
          · intro G us s6 eD lu hu
            refine ⟨by rw [sizeLine_eq]; first | decide | simp, fun p7 n7 => ?_⟩
            generalize hg : upd _ p7 _ = G7
            have s7 := sameOf n7 hg
            have e7 := atOf hg
            clear hg
            refine ⟨by rw [sizeLine_eq]; first | decide | simp, fun p8 n8 => ?_⟩
            generalize hg : upd _ p8 _ = G8
            have s8 := sameOf n8 hg
            have e8 := atOf hg
            clear hg
            refine ⟨_, _, _, rfl, rfl, e8, by decide, by decide, by rw [sizeLine_eq]; simp, fun p9 n9 => ?_⟩
            generalize hg : upd G8 p9 _ = G9
            have s9 := sameOf n9 hg
            have e9 : G9 p9 = some (.lst (List.replicate 4 (V.ref p7))) := atOf hg
            clear hg
            have k9 := s7.trans (s8.trans s9)
            refine neRows (ds := [.str "records", .none, .bool true]) (k9 _ _ eD) lu (fun u h => ?_) (.cons (.str _) (.cons .non (.cons (.bl _) .nil))) e9 ((s8.trans s9) _ _ e7) (by decide +kernel) ⟨_, rfl, ?_⟩
            · obtain ⟨r, e, e'⟩ := hu u h
              exact ⟨r, e, k9 _ _ e'⟩
            rw [if_neg (by decide)]
            exact hN2 _ _ ⟨rfl, s6.trans k9⟩
        rintro σ' H7 ⟨rfl, s5⟩
        replace bs := bs.same s5
        replace ho := ho.nx (.same s5)
        clear s5
        -- no arc
        refine seq_gen (fun σ' H' => σ' = [some (.ref a), some od, vk, some (.ref m), some (.ref ar), some (.ref gd), some (.ref rc), some (.ref pl), v8, v9, none] ∧ Same H7 H') (fun N2 hN2 => ?_) ?_
        · walk_at "nm"
          have fx7 := fx.ext bs.ext
          refine ⟨by rw [sizeLine_eq]; first | decide | simp, fun p6 n6 => ?_⟩
          generalize hg : upd _ p6 _ = G6
          have s6 := sameOf n6 hg
          have e6 := atOf hg
          clear hg
          refine ⟨p6, rfl, ⟨_, SqT.of e6⟩, fun D nD => ?_⟩
          refine lc_told (n := 3) (walk_tup (K := K) (a := p6) (xs := [.int 3, .int 4, .int 5])) (fun i => .int (3 + (i : Nat))) [.str (Str.ofString "arc"), .non, .non, .bl true] (by decide) nD (fun H' s => SqT.of (s _ _ e6)) (fun i H x H' hi y => ⟨y.1, ?_⟩) (fun i => rfl) ?_ ?_
          · have y2 := y.2
            rcases (show i = 0 ∨ i = 1 ∨ i = 2 by omega) with rfl | rfl | rfl <;> (cases y2; rfl)
          · intro i hi G Q' s7 q'
            refine ⟨_, rfl, _, rfl, _, rfl, _, rfl, ?_⟩
            exact tell_arc (EE := E0) (by omega) (fx7.same (s6.trans s7)) T.o_Records (ho.box _ (.same (s6.trans s7))).1 hno q'
          · intro G us s60 eD lu hu
            refine ⟨by rw [sizeLine_eq]; first | decide | simp, fun p7 n7 => ?_⟩
            generalize hg : upd _ p7 _ = G7
            have s7 := sameOf n7 hg
            have e7 := atOf hg
            clear hg
            refine ⟨by rw [sizeLine_eq]; first | decide | simp, fun p8 n8 => ?_⟩
            generalize hg : upd _ p8 _ = G8
            have s8 := sameOf n8 hg
            have e8 := atOf hg
            clear hg
            refine ⟨_, _, _, rfl, rfl, e8, by decide, by decide, by rw [sizeLine_eq]; simp, fun p9 n9 => ?_⟩
            generalize hg : upd G8 p9 _ = G9
            have s9 := sameOf n9 hg
            have e9 : G9 p9 = some (.lst (List.replicate 3 (V.ref p7))) := atOf hg
            clear hg
            have k9 := s7.trans (s8.trans s9)
            refine neRows (ds := [.str "arc", .none, .none, .bool true]) (k9 _ _ eD) lu (fun u h => ?_) (.cons (.str _) (.cons .non (.cons .non (.cons (.bl _) .nil)))) e9 ((s8.trans s9) _ _ e7) (by decide +kernel) ⟨_, rfl, ?_⟩
            · obtain ⟨r, e, e'⟩ := hu u h
              exact ⟨r, e, k9 _ _ e'⟩
            rw [if_neg (by decide)]
            exact hN2 _ _ ⟨rfl, s6.trans (s60.trans k9)⟩
        rintro σ' H8 ⟨rfl, s5⟩
        replace bs := bs.same s5
        clear s5 ho hno
        -- no point
        refine seq_gen (fun σ' H' => ∃ p z, σ' = [some (.ref a), some od, vk, some (.ref m), some (.ref ar), some (.ref gd), some (.ref rc), some (.ref pl), some p, v9, none] ∧ Bs (TL K) G3 pl H' ∧ (∀ H2, Nx pl H' H2 → PtV K H2 p false ∧ Rp K H2 p z) ∧ PyData.strOk z = true) (fun N2 hN2 => ?_) ?_
        · walk_at "nm"
          refine ⟨by rw [sizeLine_eq]; first | decide | simp, fun p1 n1 => ?_⟩
          generalize hg : upd _ p1 _ = G1
          have s1 := sameOf n1 hg
          have h1 := atOf hg
          clear hg
          refine ⟨_, rfl, ?_⟩
          refine ⟨by rw [sizeLine_eq]; first | decide | simp, fun p2 n2 => ?_⟩
          generalize hg : upd _ p2 _ = G2
          have s2 := sameOf n2 hg
          have h2 := atOf hg
          clear hg
          refine ⟨by rw [sizeLine_eq]; first | decide | simp, fun p3 n3 => ?_⟩
          generalize hg : upd _ p3 _ = G3'
          have s3 := sameOf n3 hg
          have h3 := atOf hg
          clear hg
          refine ⟨by rw [sizeLine_eq]; first | decide | simp, fun p4 n4 => ?_⟩
          generalize hg : upd _ p4 _ = G4
          have s4 := sameOf n4 hg
          have h4 := atOf hg
          clear hg
          refine ⟨by rw [sizeLine_eq]; first | decide | simp, fun p5 n5 => ?_⟩
          generalize hg : upd _ p5 _ = G5
          have s5 := sameOf n5 hg
          have h5 := atOf hg
          clear hg
          refine ⟨⟨by decide, by decide, by decide⟩, ?_⟩
          rw [show (2 : Int) ^ Int.toNat 32 = 4294967296 by decide]
          refine ⟨by rw [sizeLine_eq]; first | decide | simp, fun p6 n6 => ?_⟩
          generalize hg : upd _ p6 _ = G6
          have s6 := sameOf n6 hg
          have h6 := atOf hg
          clear hg
          refine ⟨by rw [sizeLine_eq]; first | decide | simp, fun p7 n7 => ?_⟩
          generalize hg : upd _ p7 _ = G7
          have s7 := sameOf n7 hg
          have h7 := atOf hg
          clear hg
          refine ⟨by rw [sizeLine_eq]; first | decide | simp, fun p8 n8 => ?_⟩
          generalize hg : upd _ p8 _ = G8
          have s8 := sameOf n8 hg
          have h8 := atOf hg
          clear hg
          have b1 := bs.same s1
          have b2 := b1.same s2
          have b3 := b2.same s3
          have b4 := b3.same s4
          have b5 := b4.same s5
          have b6 := b5.same s6
          have b7 := b6.same s7
          have b8 := b7.same s8
          refine ⟨pl, 9, rfl, b8.pool, by decide, by decide, fun w G9 w0 w1 hp9 x9 => ?_⟩
          have b9 := b8.ex x9 hp9
          have y9 : Nx pl G8 G9 := Nx.ex x9
          have k7 := s7.trans s8
          have k6 := s6.trans k7
          have k5 := s5.trans k6
          have k4 := s4.trans k5
          have k3 := s3.trans k4
          have k2 := s2.trans k3
          have g1 := fun H2 (y : Nx pl G9 H2) => ((Nx.same k2).trans (y9.trans y)).at h1 (bs.ne n1)
          have g2 := fun H2 (y : Nx pl G9 H2) => ((Nx.same k3).trans (y9.trans y)).at h2 (b1.ne n2)
          have g3 := fun H2 (y : Nx pl G9 H2) => ((Nx.same k4).trans (y9.trans y)).at h3 (b2.ne n3)
          have g4 := fun H2 (y : Nx pl G9 H2) => ((Nx.same k5).trans (y9.trans y)).at h4 (b3.ne n4)
          have g5 := fun H2 (y : Nx pl G9 H2) => ((Nx.same k6).trans (y9.trans y)).at h5 (b4.ne n5)
          have g6 := fun H2 (y : Nx pl G9 H2) => ((Nx.same k7).trans (y9.trans y)).at h6 (b5.ne n6)
          have g7 := fun H2 (y : Nx pl G9 H2) => ((Nx.same s8).trans (y9.trans y)).at h7 (b6.ne n7)
          have key : ∃ p d, atI [V.non, V.int 5, V.ref p1, V.ref p2, V.ref p3, V.ref p4, V.ref p5, V.ref p6, V.ref p7] w = some p ∧ (∀ H2, Nx pl G9 H2 → PtV K H2 p false ∧ Dp K H2 p d) ∧ Ah.PyData.plain d = true := by
            rcases (show w = 0 ∨ w = 1 ∨ w = 2 ∨ w = 3 ∨ w = 4 ∨ w = 5 ∨ w = 6 ∨ w = 7 ∨ w = 8 by omega) with rfl | rfl | rfl | rfl | rfl | rfl | rfl | rfl | rfl
            · exact ⟨_, .none, rfl, fun H2 y => ⟨.no .non rfl, .non⟩, by decide +kernel⟩
            · exact ⟨_, .int 5, rfl, fun H2 y => ⟨.no (.int 5) rfl, .int 5⟩, by decide +kernel⟩
            · exact ⟨_, .tuple [.int 1], rfl, fun H2 y => ⟨.len (g1 H2 y) (by decide) (by decide), .tup (SqT.of (g1 H2 y)) (.cons (.int 1) .nil)⟩, by decide +kernel⟩
            · exact ⟨_, .tuple [.int (-1), .str ""], rfl, fun H2 y => ⟨ptFalse (by decide +kernel) (.two (ku := .int (-1)) (kt := .str "") (g2 H2 y) (.int (-1)) (.str _) (show (Str.ofString "").length ≤ 1000000 by decide +kernel)), .tup (SqT.of (g2 H2 y)) (.cons (.int (-1)) (.cons (.str _) .nil))⟩, by decide +kernel⟩
            · exact ⟨_, .tuple [.str "0", .str ""], rfl, fun H2 y => ⟨.two (ku := .str "0") (kt := .str "") (g3 H2 y) (.str _) (.str _) (show (Str.ofString "").length ≤ 1000000 by decide +kernel), .tup (SqT.of (g3 H2 y)) (.cons (.str _) (.cons (.str _) .nil))⟩, by decide +kernel⟩
            · exact ⟨_, .tuple [.int 0, .str "A"], rfl, fun H2 y => ⟨ptFalse (by decide +kernel) (.two (ku := .int 0) (kt := .str "A") (g4 H2 y) (.int 0) (.str _) (show (Str.ofString "A").length ≤ 1000000 by decide +kernel)), .tup (SqT.of (g4 H2 y)) (.cons (.int 0) (.cons (.str _) .nil))⟩, by decide +kernel⟩
            · exact ⟨_, .list [.int 0, .str ""], rfl, fun H2 y => ⟨.no (.lst (g5 H2 y)) rfl, .lst (SqL.of (g5 H2 y)) (.cons (.int 0) (.cons (.str _) .nil))⟩, by decide +kernel⟩
            · exact ⟨_, .tuple [.int 4294967296, .str "a"], rfl, fun H2 y => ⟨ptFalse (by decide +kernel) (.two (ku := .int 4294967296) (kt := .str "a") (g6 H2 y) (.int 4294967296) (.str _) (show (Str.ofString "a").length ≤ 1000000 by decide +kernel)), .tup (SqT.of (g6 H2 y)) (.cons (.int 4294967296) (.cons (.str _) .nil))⟩, by decide +kernel⟩
            · exact ⟨_, .tuple [.bool true, .str ""], rfl, fun H2 y => ⟨.two (ku := .bl true) (kt := .str "") (g7 H2 y) (.bl true) (.str _) (show (Str.ofString "").length ≤ 1000000 by decide +kernel), .tup (SqT.of (g7 H2 y)) (.cons (.bl true) (.cons (.str _) .nil))⟩, by decide +kernel⟩
          obtain ⟨p, d, eo, ho, hd⟩ := key
          exact ixL (SqL.of (x9 _ _ (b7.ne n8) h8)) eo (hN2 _ _ ⟨p, d.shown, rfl, b9, fun H2 y => ⟨(ho H2 y).1, plain_rp hd (ho H2 y).2⟩, plain_ok hd⟩)
        clear bs
        rintro σ' H9 ⟨p, z, rfl, bs, hpt, hz⟩
        -- no moment
        refine seq_gen (fun σ' H' => ∃ mo k z2, σ' = [some (.ref a), some od, vk, some (.ref m), some (.ref ar), some (.ref gd), some (.ref rc), some (.ref pl), some p, some mo, none] ∧ Bs (TL K) G3 pl H' ∧ (∀ H2, Nx pl H' H2 → PtV K H2 p false ∧ Rp K H2 p z) ∧ OdV K pl H' mo k z2 ∧ k.least 0 = false) (fun N2 hN2 => ?_) ?_
        · walk_at "nm"
          refine ⟨_, rfl, ?_⟩
          refine ⟨by rw [sizeLine_eq]; first | decide | simp, fun p0 n0 => ?_⟩
          generalize hg : upd _ p0 _ = G0
          have s0 := sameOf n0 hg
          have h0 := atOf hg
          clear hg
          refine ⟨by rw [sizeLine_eq]; first | decide | simp, fun pz nz => ?_⟩
          generalize hg : upd _ pz _ = Gz
          have sz := sameOf nz hg
          have hz2 := atOf hg
          clear hg
          have b0 := bs.same s0
          have bz := b0.same sz
          refine ⟨pl, 5, rfl, bz.pool, by decide, by decide, fun w G' w0 w1 hp' x' => ?_⟩
          have bw := bz.ex x' hp'
          have g0 := fun H2 (y : Nx pl G' H2) => ((Nx.same sz).trans ((Nx.ex x').trans y)).at h0 (bs.ne n0)
          have key : ∃ od k z, atI [V.non, V.int (-1), V.bl true, V.str (Str.ofString "0"), V.ref p0] w = some od ∧ OdV K pl G' od k z ∧ k.least 0 = false := by
            rcases (show w = 0 ∨ w = 1 ∨ w = 2 ∨ w = 3 ∨ w = 4 by omega) with rfl | rfl | rfl | rfl | rfl
            · exact ⟨_, .non, _, rfl, .of .none (by decide +kernel) (fun H' y => ⟨.non, .non⟩), rfl⟩
            · exact ⟨_, .int (-1), _, rfl, .of (.int (-1)) (by decide +kernel) (fun H' y => ⟨.int _, .int _⟩), by decide⟩
            · exact ⟨_, .bl true, _, rfl, .of (.bool true) (by decide +kernel) (fun H' y => ⟨.bl _, .bl _⟩), rfl⟩
            · exact ⟨_, .str "0", _, rfl, .of (.str "0") (by decide +kernel) (fun H' y => ⟨.str _, .str _⟩), rfl⟩
            · exact ⟨_, .tup p0 _, _, rfl, .of (.tuple [.int 0]) (by decide +kernel) (fun H' y => ⟨.tup (g0 H' y), .tup (SqT.of (g0 H' y)) (.cons (.int _) .nil)⟩), rfl⟩
          obtain ⟨mo, k2, z2, eo, ho, hk2⟩ := key
          exact ixL (SqL.of (x' _ _ (b0.ne nz) hz2)) eo (hN2 _ _ ⟨mo, k2, z2, rfl, bw, fun H2 y => hpt H2 ((Nx.same (s0.trans sz)).trans ((Nx.ex x').trans y)), ho, hk2⟩)
        clear bs hpt
        rintro σ' H10 ⟨mo, k2, z2, rfl, bs, hpt, ho, hk2⟩
        refine seq_gen (fun σ' H' => σ' = [some (.ref a), some od, vk, some (.ref m), some (.ref ar), some (.ref gd), some (.ref rc), some (.ref pl), some p, some mo, none] ∧ Same H10 H') (fun N2 hN2 => ?_) ?_
        · walk_at "nm"
          obtain ⟨dr, fr, hr', lr⟩ := (fx.ext bs.ext).rc
          refine ⟨rc, dr, fr, p, mo, rfl, hr', lr, fun E Q' hE hT => ⟨_, _, _, rfl, .inl ⟨(hpt _ .refl).1, out__law_owner_told_InvalidPoint hE (fun H' s => (hpt _ (.same s)).2) fun G7 r s7 nr er => ?_⟩⟩⟩
          refine ⟨_, _, rfl, (hpt _ (.same s7)).2, ?_⟩
          refine ⟨by rw [sizeLine_eq]; first | decide | simp, fun p8 n8 => ?_⟩
          generalize hg : upd _ p8 _ = G8
          have s8 := sameOf n8 hg
          have e8 := atOf hg
          clear hg
          refine neZB (by decide +kernel) hz (s8 _ _ er) e8 ⟨_, rfl, ?_⟩
          rw [if_neg (by decide)]
          exact hN2 _ _ ⟨rfl, s7.trans s8⟩
        rintro σ' H11 ⟨rfl, s5⟩
        replace bs := bs.same s5
        replace ho := ho.nx (.same s5)
        clear s5 hpt
        refine one_gen (fun σ' H' => σ' = [some (.ref a), some od, vk, some (.ref m), some (.ref ar), some (.ref gd), some (.ref rc), some (.ref pl), some p, some mo, none] ∧ Same H11 H') (fun N2 hN2 => ?_) ?_
        · walk_at "nm"
          refine ⟨by rw [sizeLine_eq]; first | decide | simp, fun p6 n6 => ?_⟩
          generalize hg : upd _ p6 _ = G6
          have s6 := sameOf n6 hg
          have e6 := atOf hg
          clear hg
          obtain ⟨dr, fr, hr', lr⟩ := (fx.ext (bs.same s6).ext).rc
          have pt : PtAt G6 p6 (3, Str.ofString "a!") := e6
          refine ⟨rc, dr, fr, .ref p6, mo, rfl, hr', lr, fun E Q' hE hT => ⟨_, _, _, rfl, .inr ⟨k2, pt.ptv (by decide +kernel) (by decide +kernel), (ho.box _ (.same s6)).1, hk2, out__law_owner_told_InvalidNumber hE (fun H' s => (ho.box _ (.same (s6.trans s))).2) fun G7 r s7 nr er => ?_⟩⟩⟩
          refine ⟨_, _, rfl, (ho.box _ (.same (s6.trans s7))).2, ?_⟩
          refine ⟨by rw [sizeLine_eq]; first | decide | simp, fun p8 n8 => ?_⟩
          generalize hg : upd _ p8 _ = G8
          have s8 := sameOf n8 hg
          have e8 := atOf hg
          clear hg
          refine neZB (by decide +kernel) ho.ok (s8 _ _ er) e8 ⟨_, rfl, ?_⟩
          rw [if_neg (by decide)]
          exact hN2 _ _ ⟨rfl, s6.trans (s7.trans s8)⟩
        rintro σ' H12 ⟨rfl, s5⟩
        replace bs := bs.same s5
        exact ⟨⟨_, _, _, _, _, rfl⟩, bs.ext, bs.tabs⟩
      · rintro σ H2 ⟨⟨u1, v2, v7, v8, v9, rfl⟩, e2, t2⟩
        exact hN _ _ ⟨_, _, _, _, _, rfl, e2⟩
    rintro σ' H4 ⟨v1, v2, v7, v8, v9, rfl, e4⟩
    replace fx := fx.ext e4
    clear e4 hS tb
    -- odd lists
    refine seq_gen (fun σ' G => ∃ v1, σ' = [some (.ref a), v1, v2, some (.ref m), some (.ref ar), some (.ref gd), some (.ref rc), v7, v8, v9, none] ∧ Same H4 G) (fun N hN => ?_) ?_
    · refine ⟨_, rfl, by rw [sizeLine_eq]; simp, fun p1 n1 => ?_⟩
      generalize hg : upd H4 p1 _ = G1
      have s1 := sameOf n1 hg
      have e1 := atOf hg
      clear hg
      intro p2 n2
      generalize hg : upd _ p2 _ = G2
      have s2 := sameOf n2 hg
      have e2 := atOf hg
      clear hg
      refine ⟨by rw [sizeLine_eq]; first | decide | simp, fun pz nz => ?_⟩
      generalize hg : upd _ pz _ = Gz
      have sz := sameOf nz hg
      have ez := atOf hg
      clear hg
      have k1 := s2.trans sz
      have items : ∀ (j : Nat) (v : V), ([V.non, V.ref p1, V.ref p2, V.str (Str.ofString "x"), V.int 5] : List V)[j]? = some v → ∃ k, (∀ G, Same Gz G → Is K G v k) ∧ k.isT "list" = false := by
        intro j v hv
        rcases j with _ | _ | _ | _ | _ | j
        · cases hv
          exact ⟨_, fun G s => .non, rfl⟩
        · cases hv
          exact ⟨_, fun G s => .tup (s _ _ (k1 _ _ e1)), rfl⟩
        · cases hv
          exact ⟨_, fun G s => .dct (s _ _ (sz _ _ e2)), rfl⟩
        · cases hv
          exact ⟨_, fun G s => .str _, rfl⟩
        · cases hv
          exact ⟨_, fun G s => .int _, rfl⟩
        · simp at hv
      have k0 := s1.trans k1
      refine ⟨pz, rfl, ⟨_, SqL.of ez⟩, for_list (K := K) (a := pz) (xs := [.non, .ref p1, .ref p2, .str (Str.ofString "x"), .int 5]) (fun j σ' G => (∃ v1, σ' = [some (.ref a), v1, v2, some (.ref m), some (.ref ar), some (.ref gd), some (.ref rc), v7, v8, v9, none]) ∧ Same Gz G) ⟨⟨_, rfl⟩, Same.refl _⟩ (fun j σ' G _ p => SqL.of (p.2 _ _ ez)) ?_ ?_⟩
      · rintro j v σ' G4 hv ⟨⟨w1, rfl⟩, s4⟩
        dsimp only [gName]
        simp only [List.set_cons_succ, List.set_cons_zero]
        obtain ⟨k, hk, nl⟩ := items j v hv
        have fx4 := fx.same (k0.trans s4)
        refine seq_gen (fun σ' H' => σ' = [some (.ref a), some v, v2, some (.ref m), some (.ref ar), some (.ref gd), some (.ref rc), v7, v8, v9, none] ∧ Same G4 H') (fun N2 hN2 => ?_) ?_
        · walk_at "nm"
          refine tell_recN fx4 T.o_Mixing (hk _ s4) nl fun G7 r s7 nr er => ?_
          refine ⟨by rw [sizeLine_eq]; first | decide | simp, fun p8 n8 => ?_⟩
          generalize hg : upd _ p8 _ = G8
          have s8 := sameOf n8 hg
          have e8 := atOf hg
          clear hg
          refine neD_same (.list [.str "records", .none, .bool true]) (.lst (SqL.of (s8 _ _ er)) (.cons (.str _) (.cons .non (.cons (.bl _) .nil)))) (.lst (SqL.of e8) (.cons (.str _) (.cons .non (.cons (.bl _) .nil)))) (by decide +kernel) ⟨_, rfl, ?_⟩
          rw [if_neg (by decide)]
          exact hN2 _ _ ⟨rfl, s7.trans s8⟩
        rintro σ' G5 ⟨rfl, s5⟩
        have s45 := s4.trans s5
        walk_at "nm"
        refine ⟨by rw [sizeLine_eq]; first | decide | simp, fun p6 n6 => ?_⟩
        generalize hg : upd _ p6 _ = G6
        have s6 := sameOf n6 hg
        have e6 := atOf hg
        clear hg
        refine ⟨p6, rfl, ⟨_, SqT.of e6⟩, fun D nD => ?_⟩
        refine lc_told (n := 2) (walk_tup (K := K) (a := p6) (xs := [.int 3, .int 4])) (fun i => .int (3 + (i : Nat))) [.str (Str.ofString "receipts"), .non, .bl true] (by decide) nD (fun H' s => SqT.of (s _ _ e6)) (fun i H x H' hi y => ⟨y.1, ?_⟩) (fun i => rfl) ?_ ?_
        · have y2 := y.2
          rcases (show i = 0 ∨ i = 1 by omega) with rfl | rfl <;> (cases y2; rfl)
        · intro i hi G Q' s7 q'
          refine ⟨_, rfl, _, rfl, _, rfl, _, rfl, ?_⟩
          have k7 := s6.trans s7
          exact tell_rcp (EE := E0) (by omega) (fx4.same (s5.trans k7)) T.o_Records T.o_Arc (hk _ (s45.trans k7)) nl q'
        · intro G us s60 eD lu hu
          refine ⟨by rw [sizeLine_eq]; first | decide | simp, fun p7 n7 => ?_⟩
          generalize hg : upd _ p7 _ = G7
          have s7 := sameOf n7 hg
          have e7 := atOf hg
          clear hg
          refine ⟨by rw [sizeLine_eq]; first | decide | simp, fun p8 n8 => ?_⟩
          generalize hg : upd _ p8 _ = G8
          have s8 := sameOf n8 hg
          have e8 := atOf hg
          clear hg
          refine ⟨_, _, _, rfl, rfl, e8, by decide, by decide, by rw [sizeLine_eq]; simp, fun p9 n9 => ?_⟩
          generalize hg : upd G8 p9 _ = G9
          have s9 := sameOf n9 hg
          have e9 : G9 p9 = some (.lst (List.replicate 2 (V.ref p7))) := atOf hg
          clear hg
          have k9 := s7.trans (s8.trans s9)
          refine neRows (ds := [.str "receipts", .none, .bool true]) (k9 _ _ eD) lu (fun u h => ?_) (.cons (.str _) (.cons .non (.cons (.bl _) .nil))) e9 ((s8.trans s9) _ _ e7) (by decide +kernel) ⟨_, rfl, ?_⟩
          · obtain ⟨r, e, e'⟩ := hu u h
            exact ⟨r, e, k9 _ _ e'⟩
          rw [if_neg (by decide)]
          exact ⟨⟨_, rfl⟩, s45.trans (s6.trans (s60.trans k9))⟩
      · rintro σ' G4 ⟨⟨w1, rfl⟩, s4⟩
        exact hN _ _ ⟨_, rfl, k0.trans s4⟩
    rintro σ' H5 ⟨v1, rfl, s5⟩
    replace fx := fx.same s5
    walk_at "nm"
    refine tell_no fx T.o_Records T.o_Arc fun G7 r s7 nr er => ?_
    refine ⟨by rw [sizeLine_eq]; first | decide | simp, fun p8 n8 => ?_⟩
    generalize hg : upd _ p8 _ = G8
    have s8 := sameOf n8 hg
    have e8 := atOf hg
    clear hg
    refine eqD_same (.list [.str "told", .bool false]) (.lst (SqL.of (s8 _ _ er)) (.cons (.str _) (.cons (.bl _) .nil))) (.lst (SqL.of e8) (.cons (.str _) (.cons (.bl _) .nil))) (by decide +kernel) ⟨_, rfl, ?_⟩
    rw [if_pos rfl]
    exact ⟨_, true, rfl, (fx.same (s7.trans s8)).good T.o_Arc, fun H' s => ⟨_, rfl, q H'⟩⟩

theorem law_end {P : Program} {w : World} {K : Frag} {mg : Str → Option Value} (T : Txt K mg) :
    ∃ sp : Sp, (∀ (H : Hp) (a : Addr) (ns : List Int), ns.length ≤ 63 → (∀ z ∈ ns, Builtin.Int.intBits z ≤ 1048576) → (∀ p ∈ tf.map (cTA K), H p.2 = some (.tbl #[])) → SqL K H a (ns.map V.int) → sp [.ref a] H (fun v _ => v = .bl true) fun _ _ _ => False) ∧ LawOkT P w K mg (tf.map (cTA K)) 9 (ga K "law") sp :=
  ⟨sp_law K, fun H a ns hl hb ht hS => ⟨a, ns, rfl, hS, hl, hb, ht, fun _ => rfl⟩, ok_law T⟩

set_option maxHeartbeats 0
end k56
open PySem PySem.W PySem.Calls PyProof.Rows
set_option maxRecDepth 100000 in
set_option maxHeartbeats 0 in
theorem PySem.Challenge.cw_arccursors_k56_errors_of_records_holds : PySem.Challenge.rw_arccursors_k56_errors_of_records.Holds := by
  w_on; o_law
  refine HandSHeadRun.head_any (r := OpenLaw.row PySem.Challenge.rw_arccursors_k56_errors_of_records) (q := view (OpenLaw.row PySem.Challenge.rw_arccursors_k56_errors_of_records).prog [90]) (H := k56.hk) (ob := k56.ob) (M := 20000) (loose := k56.loose) (d := HandSHeadRun.topDef (OpenLaw.row PySem.Challenge.rw_arccursors_k56_errors_of_records).prog 90) (kwd := []) k56.ob_eq
    (by kernel_rfl) (fun s => by kernel_rfl) k56.run (by kernel_rfl) (by kernel_rfl) (by kernel_rfl) (by rfl) (by first | assumption | decide +kernel) (by decide +kernel) ⟨rfl, rfl, rfl, rfl, rfl, by decide +kernel⟩ ?hw ?hc
  case hw => w_witness2
  case hc =>
    refine Ah.law_walkT (l := PySem.Challenge.rw_arccursors_k56_errors_of_records) (n := 63) (k := 9) rfl (by decide) (by kernel_rfl) ⟨rfl, by decide, by decide⟩ ?F
    intro w mg fa h Y G hmg0
    obtain ⟨K, KX, c, tt⟩ := Y
    have hmg : mg ("law" : PySem.Str) = some (.ref fa) := by
      have e : (HandSHeadRun.topDef (OpenLaw.row PySem.Challenge.rw_arccursors_k56_errors_of_records).prog 90).name = ("law" : PySem.Str) := by kernel_rfl
      rw [← e]
      exact hmg0
    have T := k56.txt KX G c tt
    have e := hmg.symm.trans T.m_law
    cases e
    obtain ⟨sp, h3, h4⟩ := k56.law_end (P := (PySem.Challenge.rw_arccursors_k56_errors_of_records).prog) (w := w) T
    refine ⟨K, k56.tf.map (Ah.cTA K), sp, KX, fun p hp => ?_, fun p hp => ?_, fun p hp => ?_, h3, h4⟩
    · obtain ⟨f, hf, rfl⟩ := List.mem_map.mp hp
      exact tt.empty f hf
    · obtain ⟨f, hf, rfl⟩ := List.mem_map.mp hp
      exact tt.out f hf
    · obtain ⟨f, hf, rfl⟩ := List.mem_map.mp hp
      exact PySem.W.codeHd_of_K KX (tt.hd f hf)
