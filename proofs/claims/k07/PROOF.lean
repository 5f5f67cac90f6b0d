import PyProof.Rows.All
import Wide.All
import OpenK.AllK
import Wide.FinOn
import KE.KStateDown
import HandS.ForMost
import HandS.More
import HandS.Exc
import HandS.WordsExc
import HandS.Defaults
import HandS.Property
import HandS.Head0
import HandS.Head1
import HandS.Head2
import HandS.HeadEnd
import HandS.HeadHook1
import HandS.HeadHook2
import HandS.HeadHook3
import HandS.HeadHook4
import HandS.IsInst
import HandS.Flow
import HandS.Star
import HandS.FStr
import HandS.OwnEq
import HandS.Wide
import HandS.TupLe
import HandS.Codes
import PyProof.InstNe
import PyProof.StrBlock2
import HandS.SlotsOwn
import KE.KExcInit
import HandS.Walk
import PyProof.ExcBaseAll.LookupError
import PyProof.ExcBaseAll.RuntimeError
import PyProof.ExcBaseAll.OverflowError
import HandS.ExcField
import HandS.ExcInit
import HandS.TryMany
import HandS.ExcIs
import HandS.Lambda
import HandS.EndTab
import KE.DataCmp
import HandS.DictComp
import HandS.SortRule
import HandS.Finally
import HandS.Style
import HandS.HotCalls
import PyProof.ReprNest
import PyProof.DictFindH
import HandS.Conv
import KE.KEqNest
import KE.DataEq
import PyProof.StrLawsRepr
import PySem.Challenge.RW_arccursors_k07_whole_arcs_divide_the_lin
set_option Elab.async false
set_option linter.all false
set_option maxRecDepth 100000
set_option maxHeartbeats 4000000
/-! the head of a row by facts: defs at any address -/
namespace Ah
open PySem PySem.Spec PyProof.Rows L2 He
abbrev Frag := PySem.W.Frag
/-- the getter of a property -/
def gtA (C f : Str) (K : Frag) : Addr := match PySem.W.recIn K (ma K (ga K C) f) "property" with
  | some (.ref g :: _) => g
  | _ => 0
def glA (x : Str) (K : Frag) : Addr := ga K x
def mtA (C m : Str) (K : Frag) : Addr := ma K (ga K C) m
structure DefG where
  ad : Frag → Addr
  name : Str
  qual : Str
  params : Arguments
  body : List Stmt
  scope : Scope
  dfl : List Dv := []
  kwd : List (Str × Dv) := []
def fnG (K : Frag) (a : Addr) : FnW := match K.lookup a with
  | some ⟨_, _, .func fd, _⟩ => some (fd.name, fd.qualname, fd.params, fd.body, fd.scope, fd.globals, fd.closure, fd.builtins)
  | _ => none
def DefG.val (d : DefG) : FnW := some (d.name, d.qual, d.params, .stmts d.body, d.scope, mainGlobals, [], builtinsNs)
def DefG.dvs (K : Frag) (d : DefG) : List V := d.dfl.map (Dv.v K)
def DefG.kws (K : Frag) (d : DefG) : List (Str × V) := d.kwd.map fun q => (q.1, q.2.v K)
def DefG.ok (K : Frag) (d : DefG) : Bool := PySem.W.keepIn K (.ref (d.ad K)) && (match K.lookup (d.ad K) with
  | some ⟨_, _, .func fd, _⟩ => PySem.W.codeIn K fd.code d.qual && (dflB K fd.defaults (d.dvs K) && kwdB K fd.kwdefaults (d.kws K))
  | _ => false)
abbrev Stands (K : Frag) (d : DefG) : Prop := ∃ fd, FunD K d.name d.qual d.params d.body d.scope (d.dvs K) (d.kws K) (d.ad K) fd
theorem DefG.funD {K : Frag} {d : DefG} (e : fnG K (d.ad K) = d.val) (c : d.ok K = true) : Stands K d := by
  obtain ⟨kp, c2⟩ := ba c
  unfold fnG at e
  cases q : K.lookup (d.ad K) with
  | none =>
    rw [q] at c2
    cases c2
  | some o =>
    obtain ⟨oc, od, dt, osl⟩ := o
    rw [q] at c2 e
    cases dt with
    | func fd =>
      obtain ⟨n1, n2, n3, n4, n5, n6, n7, n8, n9, n10, n11, n12, n13, n14, n15⟩ := fd
      have e2 : (some (n1, n2, n3, n4, n5, n6, n7, n15) : FnW) = some (d.name, d.qual, d.params, .stmts d.body, d.scope, mainGlobals, [], builtinsNs) := e
      simp only [Option.some.injEq, Prod.mk.injEq] at e2
      obtain ⟨h1, h2, h3, h4, h5, h6, h7, h8⟩ := e2
      subst h1 h2 h3 h4 h5 h6 h7 h8
      have c3 : (PySem.W.codeIn K n13 d.qual && (dflB K n8 (d.dvs K) && kwdB K n9 (d.kws K))) = true := c2
      obtain ⟨k1, k2⟩ := ba c3
      obtain ⟨k3, k4⟩ := ba k2
      exact ⟨_, ⟨oc, od, n8, n9, n10, n11, n12, n13, n14, osl, rfl, q, k1, dflB_ok k3, kwdB_ok k4⟩, kp⟩
    | _ => cases c2
/-- the code object of the def at a -/
def CodeV (K : Frag) (a : Addr) : Value := match K.lookup a with
  | some ⟨_, _, .func fd, _⟩ => fd.code
  | _ => .none
def codeA (K : Frag) (a : Addr) : Addr := match CodeV K a with
  | .ref c => c
  | _ => 0
/-- a def's code object and its table -/
def cTA (K : Frag) (f : Frag → Addr) : Addr × Addr := (codeA K (f K), tabOf K (codeA K (f K)))
def tabB (g : Addr → Option Obj) (tf : List (Frag → Addr)) (K : Frag) : Bool := tf.all fun f => decide (CodeV K (f K) = .ref (codeA K (f K))) && (PySem.W.codeHdIn K (cTA K f).1 (cTA K f).2 && (match g (cTA K f).2 with
  | some o => emptyTab o
  | none => false))
/-- what is known of the tables of the defs tf -/
structure TabF (tf : List (Frag → Addr)) (h : Heap) (K : Frag) : Prop where
  code : ∀ f ∈ tf, CodeV K (f K) = .ref (codeA K (f K))
  hd : ∀ f ∈ tf, PySem.W.codeHdIn K (cTA K f).1 (cTA K f).2 = true
  out : ∀ f ∈ tf, K.lookup (cTA K f).2 = none
  empty : ∀ f ∈ tf, h.get? (cTA K f).2 = some { cls := .none, data := .fields #[] }
abbrev AlG : Type := Bool × List FnW
def obsG (fa : List Fa) (ex : Frag → Bool) (fn : List DefG) (K : Frag) : AlG := ((fa.all fun f => f.ok K) && (ex K && fn.all fun d => d.ok K), fn.map fun d => fnG K (d.ad K))
def valG (fn : List DefG) : AlG := (true, fn.map DefG.val)
def SaysG (fa : List Fa) (ex : Frag → Bool) (fn : List DefG) (K : Frag) : Prop := obsG fa ex fn K = valG fn
abbrev AlT : Type := AlG × Bool
def obsGG (n : Nat) (fa : List Fa) (ex : Frag → Bool) (fn : List DefG) (tf : List (Frag → Addr)) (g : Addr → Option Obj) : AlT := (obsG fa ex fn (frT g (asD g n)), tabB g tf (frT g (asD g n)))
theorem tabF_of {tf : List (Frag → Addr)} {n : Nat} {h : Heap} (e : tabB h.get? tf (frT h.get? (asD h.get? n)) = true) : TabF tf h (frT h.get? (asD h.get? n)) := by
  have key : ∀ f ∈ tf, _ := fun f hf => ba (List.all_eq_true.mp e f hf)
  have tab : ∀ f ∈ tf, ∃ o, h.get? (cTA (frT h.get? (asD h.get? n)) f).2 = some o ∧ emptyTab o = true := fun f hf => by
    have z := (ba (key f hf).2).2
    cases q : h.get? (cTA (frT h.get? (asD h.get? n)) f).2 with
    | none =>
      rw [q] at z
      cases z
    | some o =>
      rw [q] at z
      exact ⟨o, rfl, z⟩
  exact ⟨fun f hf => of_decide_eq_true (key f hf).1, fun f hf => (ba (key f hf).2).1, fun f hf => by
    obtain ⟨o, q, z⟩ := tab f hf
    exact frT_none q z, fun f hf => by
    obtain ⟨o, q, z⟩ := tab f hf
    rw [q, emptyTab_eq z]⟩
def hookG (n : Nat) (fa : List Fa) (ex : Frag → Bool) (fn : List DefG) (tf : List (Frag → Addr)) : PySem.W.Hook where
  α := AlT
  obs := fun s => obsGG n fa ex fn tf s.heap.get?
  val := fun _ => (valG fn, true)
  says := fun _ h => ∃ K : Frag, K.In h ∧ SaysG fa ex fn K ∧ TabF tf h K
  of := fun _ _ e => ⟨_, frT_in, congrArg (fun z : AlT => z.1) e, tabF_of (congrArg (fun z : AlT => z.2) e)⟩
  keeps := fun _ _ _ ⟨K, hK, c, t⟩ k => ⟨K, PySem.W.Frag.In.keeps hK k, c, ⟨t.code, t.hd, t.out, fun f hf => k _ _ (t.empty f hf)⟩⟩
theorem obsGG_eq {n : Nat} {fa : List Fa} {ex : Frag → Bool} {fn : List DefG} {tf : List (Frag → Addr)} {g : Addr → Option Obj} {s : Shared} (h : ∀ a, g a = s.heap.get? a) : obsGG n fa ex fn tf g = (hookG n fa ex fn tf).obs s := by
  have e : g = s.heap.get? := funext h
  rw [e] <;> rfl
section
variable {fa : List Fa} {ex : Frag → Bool} {fn : List DefG} {K : Frag}
theorem SaysG.fact (c : SaysG fa ex fn K) (i : Nat) {f : Fa} (h : fa[i]? = some f := by rfl) : f.ok K = true := by
  have c1 := (ba (show ((fa.all fun f => f.ok K) && (ex K && fn.all fun d => d.ok K)) = true from congrArg (fun z : AlG => z.1) c)).1
  exact List.all_eq_true.mp c1 f (List.mem_of_getElem? h)
theorem SaysG.more (c : SaysG fa ex fn K) : ex K = true :=
  (ba (ba (show ((fa.all fun f => f.ok K) && (ex K && fn.all fun d => d.ok K)) = true from congrArg (fun z : AlG => z.1) c)).2).1
theorem SaysG.def_ (c : SaysG fa ex fn K) (i : Nat) {d : DefG} (h : fn[i]? = some d := by rfl) : Stands K d := by
  have c2 := (ba (ba (show ((fa.all fun f => f.ok K) && (ex K && fn.all fun d => d.ok K)) = true from congrArg (fun z : AlG => z.1) c)).2).2
  have e : fn.map (fun d => fnG K (d.ad K)) = fn.map DefG.val := congrArg (fun z : AlG => z.2) c
  have e2 : (fn.map fun d => fnG K (d.ad K))[i]? = (fn.map DefG.val)[i]? := by rw [e]
  rw [List.getElem?_map, List.getElem?_map, h] at e2
  exact DefG.funD (Option.some.inj e2) (List.all_eq_true.mp c2 d (List.mem_of_getElem? h))
end
/-- a property of a class -/
def propB (C f : Str) (K : Frag) : Bool :=
  eqO (PySem.W.findIn K (.ref (ga K C)) f) (some (some (.ref (ma K (ga K C) f)))) &&
  (eqO (PySem.W.specialIn K (.ref (ma K (ga K C) f)) "__get__") (some (some (.builtin "property.__get__"))) &&
  (decide (PySem.W.takesIn K (.ref (ma K (ga K C) f)) = some true) &&
  (match PySem.W.recIn K (ma K (ga K C) f) "property" with
    | some (.ref _ :: _) => true
    | _ => false)))
theorem propB_ok {C f : Str} {K : Frag} (h : propB C f K = true) : PropOf K (ga K C) f (ma K (ga K C) f) (gtA C f K) := by
  unfold propB at h
  obtain ⟨h1, h2⟩ := ba h
  obtain ⟨h2, h3⟩ := ba h2
  obtain ⟨h3, h4⟩ := ba h3
  refine ⟨eqO_ok h1, eqO_ok h2, of_decide_eq_true h3, ?_⟩
  unfold gtA
  cases q : PySem.W.recIn K (ma K (ga K C) f) "property" with
  | none => rw [q] at h4; cases h4
  | some l =>
    rw [q] at h4
    cases l with
    | nil => cases h4
    | cons v r =>
      cases v with
      | ref g => exact ⟨r, rfl⟩
      | _ => cases h4
end Ah

/-! short words: a def that keeps its promise (FnB), calls of it. Room, and no repr is under way (Rm) -/
namespace Ah
open PySem PySem.Spec PyProof.Rows L2 He
structure Rm (k : Nat) (A : Around) : Prop where
  r : Room k A
  g : A.guards = some []
section
variable {j k : Nat} {A : Around}
theorem Rm.mono (h : Rm k A) (hj : j ≤ k) : Rm j A := ⟨h.r.mono hj, h.g⟩
theorem Rm.in1 (h : Rm (k + 1) A) : Rm k A.in1 := ⟨h.r.in1, h.g⟩
theorem Rm.make (h : Rm (k + 1) A) (C : Addr) (us : List Value) (kw : List (Str × Value)) : Rm k (A.under (.builtin "type.__call__" ⟨.ref C :: us, kw⟩)) := by
  refine ⟨h.r.make C us kw, ?_⟩
  show pushGuards (Code.builtin "type.__call__" ⟨.ref C :: us, kw⟩).guards A.guards = some []
  rw [h.g]
  rfl
theorem Rm.hu (h : Rm k A) : A.units + 1 < cLine := hu_of h.r
end
theorem hu0 {A : Around} {k : Nat} (hr : Rm k A) : A.units < cLine := hr.r.units0
theorem hu64 {A : Around} {k : Nat} (hr : Rm k A) : A.units + 64 < cLine := hr.r.units
theorem hu99 {A : Around} {k : Nat} (hr : Rm k A) : A.units + 99 < cLine := by
  have := hr.r.un
  omega
/-- the def at f, called by its positional arguments, keeps the promise sp -/
structure FnB (P : Program) (w : World) (K : Frag) (mg : Str → Option Value) (base : Heap) (k : Nat) (f : Addr) (sp : Sp) : Prop where
  run : ∀ (A : Around) (outer : List Env) (s : Shared) (H : Hp) (us : List Value) (vs : List V) (Q : VK) (E : XK), Rm k A → Env0 P w K mg base A outer s H → Vals vs us → sp vs H Q E →
    codeAny (model P w) A (.call (.ref f) ⟨us, []⟩) (CR (L2.CX P w) outer P w H s Q E) s
  kp : PySem.W.keepIn K (.ref f) = true
section
variable {P : Program} {w : World} {K : Frag} {mg : Str → Option Value} {base : Heap}
theorem FnB.mono {j k : Nat} {f : Addr} {sp : Sp} (F : FnB P w K mg base j f sp) (h : j ≤ k) : FnB P w K mg base k f sp := ⟨fun A outer s H us vs Q E hr => F.run A outer s H us vs Q E (hr.mono h), F.kp⟩
theorem FnB.imp {k : Nat} {f : Addr} {sp sp' : Sp} (F : FnB P w K mg base k f sp) (h : ∀ vs H Q E, sp' vs H Q E → sp vs H Q E) : FnB P w K mg base k f sp' := ⟨fun A outer s H us vs Q E hr e0 r q => F.run A outer s H us vs Q E hr e0 r (h _ _ _ _ q), F.kp⟩
/-- a body that keeps a promise, wherever it is entered with room -/
def BodyB (CX : CXT) (P : Program) (w : World) (K : Frag) (mg : Str → Option Value) (base : Heap) (N : List Str) (d : DefG) (k : Nat) (sp : Sp) : Prop :=
  ∀ (A : Around) (outer : List Env) (s : Shared) (H : Hp) (vs : List V) (Q : VK) (E : XK), Rm k (A.deeper (envOfC d.qual d.scope s.heap.objs.size (d.ad K) (CodeV K (d.ad K)))) → sp vs H Q E →
    ∃ t, PSs (cxOf CX P w K mg base N d.qual d.scope (d.ad K) (CodeV K (d.ad K)) A outer s H E) d.body t ∧ t { nx := fun _ H' => Q .non H', rt := Q } (L2.start N vs) H
/-- how a call of such a def runs, its arguments bound -/
theorem body_run {CX : CXT} {N ps : List Str} {k : Nat} {sp : Sp} {d : DefG} {fd : FuncData} {dvs : List V} {kws : List (Str × V)} (F : FunD K d.name d.qual d.params d.body d.scope dvs kws (d.ad K) fd) (S : FnScope N ps d.scope) (hbody : BodyB CX P w K mg base N d k sp)
    {A : Around} {outer : List Env} {s : Shared} {H : Hp} {args : Args} {us : List Value} {vs : List V} {Q : VK} {E : XK} (hr : Rm (k + 1) A) (e0 : Env0 P w K mg base A outer s H) (hb : BindsTo s fd args (ps.zip us)) (hl : vs.length = ps.length) (r : Vals vs us) (hsp : sp vs H Q E) :
    codeAny (model P w) A (.call (.ref (d.ad K)) args) (CR CX outer P w H s Q E) s := by
  obtain ⟨oc, od, dV, kV, doc, pm, an, cdv, ct, osl, rfl, lk, hcd, _, _⟩ := F.ex
  have KX : K.In s.heap := e0.mod.kin.keeps fun b o e => (e0.bs b o e).1
  have lim : s.heap.NoLimit := e0.mod.nolimit.keeps fun b o e => (e0.bs b o e).1
  have par : ∀ y ∈ ps.zip us, d.scope.names.lookup y.1 = some .local ∨ (d.scope.names.lookup y.1 = some .cell ∧ ((cellsFrom (s.heap.objs.size + 1) d.scope.names []).lookup y.1).isSome = true) := by
    rintro ⟨n, v⟩ hy
    cases S.par n (List.of_mem_zip hy).1 with
    | inl q => exact Or.inl q
    | inr q => exact Or.inr ⟨q, PySem.W.cellsFrom_some _ _ _ (Or.inl q)⟩
  refine codeAny_call_function hr.r.depth (KX _ _ lk) rfl S.co S.gen rfl (PySem.W.codeRec_of KX hcd) (hb _ _ _ _ ?_)
  refine wpAny_newFunctionEnv_cells S.kind par fun env he s1 x => ?_
  subst he
  refine ⟨lim.keeps x.toInCall.keep, codeAny_func ?_⟩
  have ec : CodeV K (d.ad K) = cdv := by
    unfold CodeV
    rw [lk]
  subst ec
  have hr' : Rm k (A.deeper (envOfC d.qual d.scope s.heap.objs.size (d.ad K) (CodeV K (d.ad K)))) := ⟨hr.r.deeper _, hr.g⟩
  obtain ⟨t, ht, hq⟩ := hbody A outer s H vs Q E hr' hsp
  have I := inv_start (CX := CX) (E := E) S hr.r.hd e0 hl r x
  refine wpAny_mono (ht.run [] s1 (L2.start N vs) H _ I hq) (fun fl s' hs => ?_) fun _ _ hs => hs
  cases fl with
  | ret u =>
    obtain ⟨v, _, H', J, rv, q⟩ := hs
    exact ⟨v, H', J.os, J.bare, J.base, J.hok, rv, q⟩
  | next =>
    obtain ⟨_, H', J, q⟩ := hs
    exact ⟨V.non, H', J.os, J.bare, J.base, J.hok, rfl, q⟩
  | brk => exact hs.elim fun _ z => z.elim fun _ z => z.2.elim
  | cont => exact hs.elim fun _ z => z.elim fun _ z => z.2.elim
/-- THE RULE for a def without defaults -/
theorem okD {N ps : List Str} {k : Nat} {sp : Sp} {d : DefG} (S : Stands K d) (h0 : d.dfl = []) (sc : FnScope N ps d.scope) (len : ∀ vs H Q E, sp vs H Q E → vs.length = ps.length)
    (hb : ∀ (kV doc pm : Value) (an : Option Addr) (cdv ct : Value) (us : List Value), us.length = ps.length → bindArgs (PySem.W.fnOf d.name d.qual d.params d.body d.scope .none kV doc pm an cdv ct) ⟨us, []⟩ = pure (ps.zip us))
    (hbody : BodyB (L2.CX P w) P w K mg base N d k sp) : FnB P w K mg base (k + 1) (d.ad K) sp := by
  obtain ⟨fd, F⟩ := S
  have e : d.dvs K = [] := by unfold DefG.dvs; rw [h0]; rfl
  rw [e] at F
  refine ⟨fun A outer s H us vs Q E hr e0 r hsp => ?_, F.kp⟩
  have hl := len _ _ _ _ hsp
  have KX : K.In s.heap := e0.mod.kin.keeps fun b o e => (e0.bs b o e).1
  have b := F.bindsN hb s us KX (by rw [List.append_nil, ← r.length]; exact hl)
  rw [List.append_nil] at b
  exact body_run F sc hbody hr e0 b hl r hsp
end
section
variable {X : Cx} {k j : Nat} {f C : Addr} {sp : Sp} {E : XK} {x m : Str} {e o : Expr} {es : List Expr} {t : TA} {ta : TE} {p pos apos : Pos} {pins : List (Addr × Obj)} {σ : L2.St} {H : Hp} {s : Shared}
/-- the callee runs, at A, at or below the running body -/
theorem runB {A : Around} {Q : VK} {us : List Value} {vs : List V} (F : FnB X.prog X.w X.K X.mg X.base k f sp) (hr : Rm k A) (e0 : Env0 X.prog X.w X.K X.mg X.base A X.stack s H) (hx : Passes (L2.CX X.prog X.w) X E) (I : L2.Inv X pins σ H s) (r : Vals vs us) (h : sp vs H Q E) :
    codeAny (model X.prog X.w) A (.call (.ref f) ⟨us, []⟩) (fun r s' => match r with | .ok (.ret v) => EP X pins σ Q v s' | .ok _ => False | .error e => X.xe e s') s := by
  refine codeAny_mono (F.run A X.stack s H us vs Q E hr e0 r h) fun res s' hq => ?_
  match res, hq with
  | .error e, hq => exact hx pins σ H s e s' I hq
  | .ok (.ret u), hq => exact I.after hq
theorem pe_cF (F : FnB X.prog X.w X.K X.mg X.base k f sp) (hr : Rm j X.A) (hm : X.mg x = some (.ref f)) (hx : Passes (L2.CX X.prog X.w) X E) (ha : PA X (e :: es) t) (hk : k ≤ j := by decide) (hg : Gl X x := by rfl)
    (hdb : (x == ("__debug__" : Str)) = false := by decide) (he : starEach (e :: es) X.env = (false, eval e X.env) :: starEach es X.env := by rfl) (hpl : (backTo pos (starEach es X.env)).any (·.1) = false := by rfl) :
    PE X (.Call (.Name x p) (e :: es) [] pos) (tCall sp [] E t) := by
  refine ⟨fun pins s σ H Q I h => wpAny_Call_Name_kw (ld_glob I hg hm ?_ hdb)⟩
  refine PySem.W.callWith_K (h₀ := X.base) I.ok.mod.kin F.kp (thn (ha.run pos pins s σ H _ I h) fun us s1 ⟨vs, H1, I1, r, q⟩ => ⟨I1.kIn, ?_⟩) he hpl
  simp only [List.append_nil] at q
  exact wpAny_call (runB F (hr.mono hk) I1.env0 hx I1 r q)
theorem pe_cF0 (F : FnB X.prog X.w X.K X.mg X.base k f sp) (hr : Rm j X.A) (hm : X.mg x = some (.ref f)) (hx : Passes (L2.CX X.prog X.w) X E) (hk : k ≤ j := by decide) (hg : Gl X x := by rfl) (hdb : (x == ("__debug__" : Str)) = false := by decide) :
    PE X (.Call (.Name x p) [] [] pos) (tCall sp [] E tNil) := by
  refine ⟨fun pins s σ H Q I h => wpAny_Call_Name_kw (ld_glob I hg hm ?_ hdb)⟩
  exact PySem.W.callWith_K0 (first := []) I.kIn F.kp (wpAny_call (runB (us := []) (vs := []) F (hr.mono hk) I.env0 hx I .nil h))
theorem pe_mkF (M : Mk X.K C f) (F : FnB X.prog X.w X.K X.mg X.base k f sp) (hr : Rm j X.A) (hm : X.mg x = some (.ref C)) (hx : Passes (L2.CX X.prog X.w) X E) (ha : PA X (e :: es) t) (hk : k + 1 ≤ j := by decide) (hg : Gl X x := by rfl)
    (hdb : (x == ("__debug__" : Str)) = false := by decide) (he : starEach (e :: es) X.env = (false, eval e X.env) :: starEach es X.env := by rfl) (hpl : (backTo pos (starEach es X.env)).any (·.1) = false := by rfl) :
    PE X (.Call (.Name x p) (e :: es) [] pos) (tMake C sp [] E t) := by
  refine ⟨fun pins s σ H Q I h => wpAny_Call_Name_kw (ld_glob I hg hm ?_ hdb)⟩
  refine PySem.W.callWith_K (h₀ := X.base) I.ok.mod.kin M.kp (thn (ha.run pos pins s σ H _ I h) fun us s1 ⟨vs, H1, I1, r, q⟩ => ⟨I1.kIn, ?_⟩) he hpl
  have q' := q (s1.heap.objs.size + 1) s1.heap.objs.size (I1.hok.fresh (Nat.le_succ _)) (I1.hok.fresh (Nat.le_refl _)) (Nat.ne_of_lt (Nat.lt_succ_self _))
  rw [List.append_nil] at q'
  have I2 := Inv.made (C := C) I1
  have r2 : Vals (V.ref (s1.heap.objs.size + 1) :: vs) (Value.ref (s1.heap.objs.size + 1) :: us) := .cons rfl r
  refine wpAny_call (make_map (f := f) I1.kIn M.makes M.init (beq_iff_eq.mp M.fn) (codeAny_mono (F.run _ X.stack _ _ _ _ _ E ((hr.mono hk).make C us []) (I2.env0.make C us []) r2 q') fun res s' hq' => ?_))
  match res, hq' with
  | .error e, hq' => exact hx pins σ _ _ e s' I2 hq'
  | .ok (.ret u), hq' =>
    obtain ⟨v, H', I3, rv, ev, q3⟩ := I2.after hq'
    subst ev
    exact ⟨rv, V.ref (s1.heap.objs.size + 1), H', I3, rfl, q3⟩
theorem pe_mtF {pl : Sem Bool} (he : PE X o ta) (c : Cls X.K C) (hm : Meth X.K C m f) (F : FnB X.prog X.w X.K X.mg X.base k f sp) (hr : Rm j X.A) (hx : Passes (L2.CX X.prog X.w) X E) (ha : PA X (e :: es) t) (hk : k ≤ j := by decide)
    (hst : starEach (e :: es) X.env = (false, eval e X.env) :: starEach es X.env := by rfl) (hpl : (backTo pos (starEach es X.env)).any (·.1) = false := by rfl)
    (ht : eval (.Call (.Attribute o m apos) (e :: es) [] pos) X.env = (do
      let ov ← eval o X.env
      standAt apos.atName
      let (f, first) ← holding [ov] (getMethod ov m pl)
      callWith pos f first (backTo pos (starEach (e :: es) X.env)) (backToKw pos (keywordEach [] X.env))) := by rfl) :
    PE X (.Call (.Attribute o m apos) (e :: es) [] pos) (tMeth C m sp [] E ta t) := by
  refine ⟨fun pins s σ H Q I h => PySem.W.methodCall_KW (pl := pl) (thn (he.run pins s σ H _ I h) fun u s1 ⟨x, H1, I1, rx, a, dx, fs, ex, ea, l, q⟩ => ?_) ht⟩
  subst ex
  cases (show u = Value.ref a from rx)
  refine getmeth_ok I1 ea c hm l (PySem.W.callWith_K (first := [.ref a]) (h₀ := X.base) I.ok.mod.kin hm.kp (thn (ha.run pos pins s1 σ H1 _ I1 q) fun us s2 ⟨vs, H2, I2, r, q2⟩ => ⟨I2.kIn, ?_⟩) hst hpl)
  simp only [List.append_nil] at q2
  exact wpAny_call (runB (us := .ref a :: us) (vs := .ref a :: vs) F (hr.mono hk) I2.env0 hx I2 (.cons rfl r) q2)
theorem pe_mtF0 {pl : Sem Bool} (he : PE X o ta) (c : Cls X.K C) (hm : Meth X.K C m f) (F : FnB X.prog X.w X.K X.mg X.base k f sp) (hr : Rm j X.A) (hx : Passes (L2.CX X.prog X.w) X E) (hk : k ≤ j := by decide)
    (ht : eval (.Call (.Attribute o m apos) [] [] pos) X.env = (do
      let ov ← eval o X.env
      standAt apos.atName
      let (f, first) ← holding [ov] (getMethod ov m pl)
      callWith pos f first (backTo pos (starEach [] X.env)) (backToKw pos (keywordEach [] X.env))) := by rfl) :
    PE X (.Call (.Attribute o m apos) [] [] pos) (tMeth C m sp [] E ta tNil) := by
  refine ⟨fun pins s σ H Q I h => PySem.W.methodCall_KW (pl := pl) (thn (he.run pins s σ H _ I h) fun u s1 ⟨x, H1, I1, rx, a, dx, fs, ex, ea, l, q⟩ => ?_) ht⟩
  subst ex
  cases (show u = Value.ref a from rx)
  exact getmeth_ok I1 ea c hm l (PySem.W.callWith_K0 (first := [.ref a]) I1.kIn hm.kp (wpAny_call (runB (us := [.ref a]) (vs := [.ref a]) F (hr.mono hk) I1.env0 hx I1 (.cons rfl .nil) q)))
theorem pe_prF {q : Addr} {y : Str} (he : PE X o ta) (c : Cls X.K C) (hp : PropOf X.K C y q f) (F : FnB X.prog X.w X.K X.mg X.base k f sp) (hr : Rm j X.A) (hx : Passes (L2.CX X.prog X.w) X.nox E) (hk : k + 1 ≤ j := by decide)
    (hab : attributeBase o y X.env (eval o X.env) = eval o X.env := by rfl) : PE X (.Attribute o y pos) (tProp C sp [] E ta) := by
  refine ⟨fun pins s σ H Q I h => attr_of hab (thn (he.run pins s σ H _ I h) fun u s1 ⟨x, H1, I1, rx, a, dx, fs, ex, ea, q⟩ => ?_)⟩
  subst ex
  cases (show u = Value.ref a from rx)
  obtain ⟨mA, O, _⟩ := ins_get I1.hok ea
  obtain ⟨od, J, _⟩ := O.look
  obtain ⟨rest, hrec⟩ := hp.rec_
  have I2 := I1.tok (s1.toks + 1)
  have hc : (PySem.W.clsIn X.K C).isSome = true := by
    obtain ⟨cd, hc, _⟩ := PySem.W.any_some c.hd
    rw [hc]
    rfl
  refine PySem.W.get_bind I1.kIn J (PySem.W.plainGet_of (c.get y)).1 (PySem.W.findObj_data hc hp.at_ hp.get hp.tak) (PySem.W.plainGet_of (c.get y)).2 (wpAny_call (PySem.W.prop_get (s := { s1 with toks := s1.toks + 1 }) I1.kIn hrec ?_))
  refine codeAny_mono (F.run X.A.in1 X.stack { s1 with toks := s1.toks + 1 } H1 [.ref a] [.ref a] Q E (hr.mono hk).in1 I2.env0.in1 (.cons rfl .nil) q) fun res s' hq => ?_
  match res, hq with
  | .error er, hq => exact False.elim (hx pins σ H1 { s1 with toks := s1.toks + 1 } er s' (I2.wish _) hq)
  | .ok (.ret u), hq =>
    obtain ⟨v, H', I3, rv, q3⟩ := I2.after hq
    exact wpAny_of_eq (PySem.W.handedOut_of (handed_of rv)) ⟨v, H', I3, rv, q3⟩
end
/-- a promise of a function of scalars: no heap is touched -/
theorem upd_keep {H : Hp} {a p : Addr} {o o' : HO} (h : H a = some o') (hp : H p = none) : upd H p o a = some o' := by
  rw [upd_ne (ne_of_none h hp)]
  exact h
theorem upd_other {H : Hp} {a p : Addr} {o o' : HO} (hn : a ≠ p) (h : H a = some o') : upd H p o a = some o' := by
  rw [upd_ne hn]
  exact h
theorem Same.upd {H H' : Hp} {p : Addr} {o : HO} (s : Same H H') (hp : H' p = none) : Same H (L2.upd H' p o) := fun b o' e => upd_keep (s b o' e) hp
end Ah

/-! kinds of values, isinstance -/
namespace Ah
open PySem PySem.Spec PyProof.Rows L2 He
/-- what a value is -/
inductive Kn where
  | int (i : Int)
  | bl (b : Bool)
  | str (z : Str)
  | non
  | lst (a : Addr) (xs : List V)
  | tup (a : Addr) (xs : List V)
  | dct (a : Addr) (kvs : List (Key × V))
  | ins (a C : Addr)
def bTys : List String := ["int", "bool", "str", "list", "tuple", "dict"]
/-- a class of the program's own, as isinstance sees its instances -/
structure OwnC (K : Frag) (C : Addr) : Prop where
  cl : Cls K C
  ha : PySem.W.findIn K (.ref C) "__class__" = some (some (.builtin "object.__class__"))
  hn : PySem.W.specialIn K (.builtin "object.__class__") "__get__" = some (some (.builtin "getset_descriptor.__get__"))
  htk : PySem.W.takesIn K (.builtin "object.__class__") = some true
  hm : PySem.W.mroIn K C (.type "object") = some true
  kit : ∀ T ∈ bTys, PySem.W.kitOne K (.ref C) (.type T) = some false
/-- .. as isinstance sees the class -/
structure OwnK (K : Frag) (C : Addr) : Prop where
  kit : ∀ T ∈ ["NoneType", "int", "bool", "str", "list", "tuple", "dict"], PySem.W.kitOne K (.type T) (.ref C) = some false
inductive Is (K : Frag) (H : Hp) : V → Kn → Prop where
  | int (i : Int) : Is K H (.int i) (.int i)
  | bl (b : Bool) : Is K H (.bl b) (.bl b)
  | str (z : Str) : Is K H (.str z) (.str z)
  | non : Is K H .non .non
  | lst {a : Addr} {xs : List V} (e : H a = some (.lst xs)) : Is K H (.ref a) (.lst a xs)
  | tup {a : Addr} {xs : List V} (e : H a = some (.tup xs)) : Is K H (.ref a) (.tup a xs)
  | dct {a : Addr} {kvs : List (Key × V)} (e : H a = some (.dK kvs)) : Is K H (.ref a) (.dct a kvs)
  | ins {a C dx : Addr} {fs : List (Str × V)} (e : H a = some (.ins C dx fs)) (c : OwnC K C) : Is K H (.ref a) (.ins a C)
theorem Is.same {K : Frag} {H H' : Hp} {x : V} {k : Kn} (h : Is K H x k) (s : Same H H') : Is K H' x k := by
  cases h with
  | int i => exact .int i
  | bl b => exact .bl b
  | str z => exact .str z
  | non => exact .non
  | lst e => exact .lst (s _ _ e)
  | tup e => exact .tup (s _ _ e)
  | dct e => exact .dct (s _ _ e)
  | ins e c => exact .ins (s _ _ e) c
def Kn.ty : Kn → Value
  | .int _ => .type "int"
  | .bl _ => .type "bool"
  | .str _ => .type "str"
  | .non => .type "NoneType"
  | .lst _ _ => .type "list"
  | .tup _ _ => .type "tuple"
  | .dct _ _ => .type "dict"
  | .ins _ C => .ref C
def Kn.isT : Kn → String → Bool
  | .int _, T => T == "int"
  | .bl _, T => T == "int" || T == "bool"
  | .str _, T => T == "str"
  | .non, _ => false
  | .lst _ _, T => T == "list"
  | .tup _ _, T => T == "tuple"
  | .dct _ _, T => T == "dict"
  | .ins _ _, _ => false
def Kn.isC : Kn → Addr → Bool
  | .ins _ C, D => decide (C = D)
  | _, _ => false
theorem Is.tyx {K : Frag} {H : Hp} {x : V} {k : Kn} (h : Is K H x k) : TyX K H x k.ty := by
  cases h with
  | int i => exact .base (.int i)
  | bl b => exact .base (.bl b)
  | str z => exact .base (.str z)
  | non => exact .base .non
  | lst e => exact .base (.lst e)
  | tup e => exact .base (.tup e)
  | dct e => exact .base (.dK e)
  | ins e c => exact .base (.ins e c.cl c.ha c.hn c.htk c.hm)
theorem kit6 {K : Frag} {k : String} {r : String → Bool} (h : ∀ T ∈ bTys, kitB k T = some (r T)) : ∀ T ∈ bTys, PySem.W.kitOne K (.type k) (.type T) = some (r T) := fun T hT => kit_ty (h T hT)
theorem Is.kit {K : Frag} {H : Hp} {x : V} {k : Kn} (h : Is K H x k) : ∀ T ∈ bTys, PySem.W.kitOne K k.ty (.type T) = some (k.isT T) := by
  cases h with
  | ins e c => exact c.kit
  | int i => exact kit6 (r := fun T => T == "int") (by decide +kernel)
  | bl i => exact kit6 (r := fun T => T == "int" || T == "bool") (by decide +kernel)
  | str i => exact kit6 (r := fun T => T == "str") (by decide +kernel)
  | non => exact kit6 (r := fun T => false) (by decide +kernel)
  | lst i => exact kit6 (r := fun T => T == "list") (by decide +kernel)
  | tup i => exact kit6 (r := fun T => T == "tuple") (by decide +kernel)
  | dct i => exact kit6 (r := fun T => T == "dict") (by decide +kernel)
/-- isinstance(x, T), T a built-in class -/
theorem isi (T : String) {K : Frag} {H : Hp} {x : V} {k : Kn} {Q : VK} (h : Is K H x k) (q : Q (.bl (k.isT T)) H) (hT : T ∈ bTys := by decide) : rIsi K [x, .ty T] H Q :=
  ⟨x, .ty T, _, _, _, rfl, .ty T, h.tyx, h.kit T hT, q⟩
theorem isiC {K : Frag} {H : Hp} {x : V} {k : Kn} {C : Addr} {Q : VK} (h : Is K H x k) (o : OwnK K C) (hd : ∀ a D, k = .ins a D → D ≠ C → PySem.W.kitOne K (.ref D) (.ref C) = some false) (q : Q (.bl (k.isC C)) H) : rIsi K [x, .ref C] H Q := by
  refine ⟨x, .ref C, k.ty, .ref C, k.isC C, rfl, .own C, h.tyx, ?_, q⟩
  cases h with
  | @ins a D dx fs e c =>
    show PySem.W.kitOne K (.ref D) (.ref C) = some (decide (D = C))
    by_cases z : D = C
    · subst z
      rw [decide_eq_true rfl]
      unfold PySem.W.kitOne
      rw [if_pos (by simp)]
    · rw [decide_eq_false z]
      exact hd a D rfl z
  | int i => exact o.kit _ (by decide)
  | bl i => exact o.kit _ (by decide)
  | str i => exact o.kit _ (by decide)
  | non => exact o.kit _ (by decide)
  | lst i => exact o.kit _ (by decide)
  | tup i => exact o.kit _ (by decide)
  | dct i => exact o.kit _ (by decide)
/-! constants of the module -/
theorem gint {mg : Str → Option Value} {x : Str} {i : Int} (h : ∃ t, mg x = some (.int i t)) : ∃ u, mg x = some u ∧ RelV (.int i) u := by
  obtain ⟨t, h⟩ := h
  exact ⟨_, h, ⟨t, rfl⟩⟩
theorem gstr {mg : Str → Option Value} {x z : Str} (h : ∃ t, mg x = some (.str z t)) : ∃ u, mg x = some u ∧ RelV (.str z) u := by
  obtain ⟨t, h⟩ := h
  exact ⟨_, h, ⟨t, rfl⟩⟩
theorem pe_gc {X : Cx} {x : Str} {pos : Pos} {v : V} (hg : Gl X x) (h : ∃ u, X.mg x = some u ∧ RelV v u) (hd : (x == ("__debug__" : Str)) = false := by decide) : PE X (.Name x pos) (tC v) := by
  obtain ⟨u, hm, r⟩ := h
  exact pe_glob hg hm r hd
theorem pj_nil {X : Cx} : PJ X [] [] := .nil
theorem pj_cons {X : Cx} {e : Expr} {t : TE} {es : List Expr} {ts : List TE} (h : PE X e t) (r : PJ X es ts) : PJ X (e :: es) (t :: ts) := .cons h r
end Ah

/-! numbers and keys: the mathematics -/
namespace Ah
open PySem PySem.Spec PyProof.Rows L2 He
def Kn.within (k : Kn) (a b : Int) : Bool := match k with
  | .int i => decide (a ≤ i) && decide (i ≤ b)
  | _ => false
/-- a sign of a key -/
def keySign (c : Nat) : Bool := (decide (97 ≤ c) && decide (c ≤ 122)) || (decide (48 ≤ c) && decide (c ≤ 57))
def isKeyL (l : List Nat) : Bool := decide (1 ≤ l.length) && decide (l.length ≤ 20) && l.all keySign
def Kn.isKey : Kn → Bool
  | .str z => isKeyL z.cps.toList
  | _ => false
/-- a text within the line -/
def Kn.small : Kn → Prop
  | .str z => z.length ≤ 1000000
  | _ => True
end Ah

/-! own rules: ==, != by an own __eq__, repr by an own __repr__, a call of an instance, text * int -/
namespace Ah
open PySem PySem.Spec PyProof.Rows L2 He
section
variable {X : Cx} {k j : Nat} {f C : Addr} {sp : Sp} {E : XK} {pins : List (Addr × Obj)} {σ : L2.St} {H : Hp} {s : Shared}
theorem looks_kn {x : V} {u : Value} {k : Kn} (I : Inv X pins σ H s) (r : RelV x u) (h : Is X.K H x k) (M : Model) : PySem.W.Looks M s.heap (typeOf u) k.ty := by
  obtain ⟨P, kx, p, _⟩ := kit_of I r h.tyx
  exact kx.ty M s.heap I.kIn p
/-- what == by an own __eq__ asks: x an instance of C, y of any kind, not of a class below C -/
def rEqO (K : Frag) (C : Addr) (sp : Sp) (E : XK) : R2 := fun x y H Q => ∃ a dx fs k, x = .ref a ∧ H a = some (.ins C dx fs) ∧ Is K H y k ∧ PySem.W.notFirst K C k.ty = true ∧ sp [x, y] H (fun z H' => ∃ b, z = .bl b ∧ Q (.bl b) H') E
theorem op_eqO (hm : Meth X.K C "__eq__" f) (F : FnB X.prog X.w X.K X.mg X.base k f sp) (hr : Rm j X.A) (hx : Passes (L2.CX X.prog X.w) X E) (hk : k ≤ j := by decide) : OpR X (compareOp .Eq) (rEqO X.K C sp E) := by
  intro pins s σ H x y v u Q I rx ry h
  obtain ⟨a, dx, fs, kn, rfl, ha, hy, hn, q⟩ := h
  cases (show v = Value.ref a from rx)
  obtain ⟨mA, O, _⟩ := ins_get I.hok ha
  obtain ⟨od, J, _⟩ := O.look
  obtain ⟨m, hF⟩ := I.fr
  refine PySem.W.cmp_K (op := .Eq) (tb := kn.ty) (hu0 hr) hF I.ok.mod.kin J (looks_kn I ry hy _) hn hm.at_ hm.fn ?_
  refine wpAny_mono (wpAny_call (runB (us := [.ref a, u]) (vs := [.ref a, y]) F (hr.mono hk) I.env0 hx I (.cons rfl (.cons ry .nil)) q)) (fun w s' z => ?_) fun _ _ x => x
  obtain ⟨z', H', I', rz, b, eb, qz⟩ := z
  subst eb
  cases (show w = Value.bool b from rz)
  exact ⟨.bl b, H', I', rfl, qz⟩
/-- != by an own __eq__ -/
theorem ne_K {prog : Program} {w : World} {A : Around} {E : Value → Shared → Prop} {s : Shared} {K : Frag} {x C L f : Addr} {h₀ : Heap} {m : Str → Option Value} {ox : Obj} {od : Option Obj} {b tb : Value} {Q : Value → Shared → Prop}
    (hu : A.units + 1 < cLine) (F : Fr h₀ L s.heap m) (X₀ : K.In h₀) (I : PySem.W.InstAt s.heap x ox C od) (hb : PySem.W.Looks (model prog w) s.heap (typeOf b) tb) (hn : PySem.W.notFirst K C tb = true)
    (hne : PySem.W.findIn K (.ref C) "__ne__" = some (some (.builtin "object.__ne__"))) (hcl : PySem.W.excInitIn K C [.type "object"] "object.__new__" = true)
    (hs : PySem.W.findIn K (.ref C) "__eq__" = some (some (.ref f))) (hf : PySem.W.isFn K (.ref f) = true)
    (h : wpAny (model prog w) A.in1 (call (.ref f) [.ref x, b]) (fun v s' => ∃ c, v = .bool c ∧ Q (.bool (!c)) s') E s) : wpAny (model prog w) A (richCompare .NotEq (.ref x) b) Q E s := by
  have X := X₀.keeps F.keep
  have one : wpAny (model prog w) A (tryCompare (.ref x) "__ne__" b) (fun r s' => ∃ v, r = some v ∧ Q v s') E s := by
    unfold tryCompare
    refine wpAny_bind (m := callSpecialIfBound? (.ref x) "__ne__" [b]) ?_
    simp only [callSpecialIfBound?, bindSpecialIfBound?]
    refine wpAny_holding (wpAny_bind (wpAny_bind (wpAny_bind (I.type.here ((PySem.W.looks_findIn X hne).here ?_)))))
    refine wpAny_bind (wpAny_askSetting (wpAny_ite ?_))
    have bnd : bindSpecial (.builtin "object.__ne__") (.ref x) = pure (.builtin "object.__ne__", [.ref x]) := PySem.F.cmp_object.ne.bind _
    have fin : wpAny (model prog w) A (call (.builtin "object.__ne__") ([.ref x] ++ [b]) >>= fun v => pure (some v)) (fun r s' => wpAny (model prog w) A (match r with
        | some .notImplemented | none => pure none
        | some v => pure (some v)) (fun r s' => ∃ v, r = some v ∧ Q v s') E s') E s := by
      refine wpAny_bind (wpAny_call (codeAny_call_builtin PySem.F.cmp_object.ne.plain PySem.F.cmpEntry_ne ?_))
      obtain ⟨nm, N, qn, bs, bm, hdct, sn, sub, ab, col, dd, k0, k1, k2, k3, k5, hC, hbm⟩ := PySem.W.excInit_of X hcl
      have hob : bm.contains (.type "object") = true := by rw [hbm]; decide +kernel
      obtain ⟨hp, gg, dr, tk, os⟩ := s
      refine wpAny_check_slot_inst PySem.F.cmpKind_ne PySem.F.cmpSplit_ne (PySem.F.cmpArgs_ne _ _) hob I.at_ I.cls hC ?_
      unfold Builtin.«object.__ne__»
      repeat (first
        | with_reducible refine wpAny_cRoomFor hu ?_
        | (refine wpAny_bind (m := callSpecialIfBound? (.ref x) (Str.ofString "__eq__") [b])
            (PySem.W.ifBound_K X I hs hf (wpAny_mono h (fun r s' hr => by
              obtain ⟨c, rfl, hq⟩ := hr
              repeat (first | exact ⟨_, rfl, hq⟩ | exact wpAny_pure ⟨_, rfl, hq⟩ | exact wpAny_pure (wpAny_pure ⟨_, rfl, hq⟩) | exact wpAny_truthy_bool hq | (refine wpAny_bind (m := truthy (.bool _)) (wpAny_truthy_bool ?_)) | wp_step)) fun _ _ e => e)))
        | wp_step)
    split
    · simp only [bnd]
      exact wpAny_bind (wpAny_pure (wpAny_pure fin))
    · simp only [bnd]
      exact wpAny_tryCatch (wpAny_bind (wpAny_pure (wpAny_pure fin)))
  unfold richCompare
  simp only [oneThing_ref]
  refine wpAny_holding (wpAny_bind (wpAny_cRoomFor (Nat.lt_of_succ_lt hu) ?_))
  refine wpAny_bind (I.type.here (wpAny_bind (hb.here ?_)))
  split
  · rename_i q
    have e : PySem.W.subIn K tb (.ref C) = some false := by
      rcases Bool.or_eq_true_iff.mp hn with e | e
      · rw [beq_iff_eq.mp e] at q; simp at q
      · exact beq_iff_eq.mp e
    refine wpAny_bind ((PySem.W.looks_subIn X e).here ?_)
    simp only [Bool.false_eq_true, if_false]
    refine wpAny_bind (wpAny_mono one (fun r s' z => ?_) fun _ _ e => e)
    obtain ⟨v, rfl, hq⟩ := z
    exact wpAny_pure hq
  · refine wpAny_bind (wpAny_pure ?_)
    simp only [Bool.false_eq_true, if_false]
    refine wpAny_bind (wpAny_mono one (fun r s' z => ?_) fun _ _ e => e)
    obtain ⟨v, rfl, hq⟩ := z
    exact wpAny_pure hq
/-- the class has no __ne__ of its own -/
structure NoNe (K : Frag) (C : Addr) : Prop where
  ne : PySem.W.findIn K (.ref C) "__ne__" = some (some (.builtin "object.__ne__"))
  cl : PySem.W.excInitIn K C [.type "object"] "object.__new__" = true
def rNeO (K : Frag) (C : Addr) (sp : Sp) (E : XK) : R2 := fun x y H Q => ∃ a dx fs k, x = .ref a ∧ H a = some (.ins C dx fs) ∧ Is K H y k ∧ PySem.W.notFirst K C k.ty = true ∧ sp [x, y] H (fun z H' => ∃ b, z = .bl b ∧ Q (.bl (!b)) H') E
theorem op_neO (hm : Meth X.K C "__eq__" f) (hne : NoNe X.K C) (F : FnB X.prog X.w X.K X.mg X.base k f sp) (hr : Rm j X.A) (hx : Passes (L2.CX X.prog X.w) X E) (hk : k + 1 ≤ j := by decide) : OpR X (compareOp .NotEq) (rNeO X.K C sp E) := by
  intro pins s σ H x y v u Q I rx ry h
  obtain ⟨a, dx, fs, kn, rfl, ha, hy, hn, q⟩ := h
  cases (show v = Value.ref a from rx)
  obtain ⟨mA, O, _⟩ := ins_get I.hok ha
  obtain ⟨od, J, _⟩ := O.look
  obtain ⟨m, hF⟩ := I.fr
  have hr1 : Rm (k + 1) X.A := hr.mono hk
  refine ne_K (tb := kn.ty) hr.hu hF I.ok.mod.kin J (looks_kn I ry hy _) hn hne.ne hne.cl hm.at_ hm.fn ?_
  refine wpAny_mono (wpAny_call (runB (us := [.ref a, u]) (vs := [.ref a, y]) F hr1.in1 I.env0.in1 hx I (.cons rfl (.cons ry .nil)) q)) (fun w s' z => ?_) fun _ _ x => x
  obtain ⟨z', H', I', rz, b, eb, qz⟩ := z
  subst eb
  cases (show w = Value.bool b from rz)
  exact ⟨b, rfl, .bl (!b), H', I', rfl, qz⟩
/-- repr(x), x an instance of C with its own __repr__ -/
def rRepr (C : Addr) (sp : Sp) (E : XK) : List V → Hp → VK → Prop := fun xs H Q => ∃ a dx fs, xs = [.ref a] ∧ H a = some (.ins C dx fs) ∧ sp [.ref a] H (fun z H' => ∃ y, z = .str y ∧ Q (.str y) H') E
theorem call_reprO (hm : Meth X.K C "__repr__" f) (G : FnB X.prog X.w X.K X.mg X.base k f sp) (hr : Rm j X.A) (hx : Passes (L2.CX X.prog X.w) X E) (hk : k + 1 ≤ j := by decide) : CallR X (.builtin "repr") (rRepr C sp E) := by
  intro pins s σ H xs us Q I r h
  obtain ⟨a, dx, fs, rfl, ha, q⟩ := h
  obtain ⟨u, rfl, ru⟩ := r.one
  cases (show u = Value.ref a from ru)
  obtain ⟨mA, O, _⟩ := ins_get I.hok ha
  obtain ⟨od, J, _⟩ := O.look
  have hr1 : Rm (k + 1) X.A := hr.mono hk
  refine Calls.call_function_entry F.kind_repr F.plain_repr F.entry_repr (F.args_repr1 _) ?_
  unfold Builtin.«repr»
  refine wpAny_bind (m := oneArg "repr" _) (wpAny_pure ?_)
  refine wpAny_bind (wpAny_cRoomFor (by exact hr.hu) ?_)
  refine wpAny_bind (wpAny_bind (J.type.here ((PySem.W.looks_findIn I.kIn hm.at_).here ?_)))
  refine wpAny_bind (m := callSpecialIfBound? (.ref a) (Str.ofString "__repr__")) (PySem.W.ifBound_K I.kIn J hm.at_ hm.fn (wpAny_mono (wpAny_call (runB (us := [.ref a]) (vs := [.ref a]) G hr1.in1 I.env0.in1 hx I (.cons rfl .nil) q)) (fun w s' z => ?_) fun _ _ x => x))
  obtain ⟨z', H', I', rz, y, ey, qz⟩ := z
  subst ey
  obtain ⟨t, e⟩ := (show ∃ t, w = Value.str y t from rz)
  subst e
  refine wpAny_bind (wpAny_isInstance (T := "str") (b := true) rfl isSubtype_str_str ?_)
  exact wpAny_pure ⟨_, rfl, .str y, H', I', ⟨t, rfl⟩, qz⟩
/-- f(e, ..), f a slot that holds an instance of C with its own __call__ -/
def tCoF (C : Addr) (sp : Sp) (E : XK) (tf : TE) (t : TA) : TE := fun σ H Q => tf σ H fun y H1 => ∃ a, y = V.ref a ∧ t σ H1 fun vs H2 => (∃ dx fs, H2 a = some (.ins C dx fs)) ∧ sp (V.ref a :: vs) H2 Q E
theorem pe_coF {fe e : Expr} {es : List Expr} {tf : TE} {t : TA} {pos : Pos} (hf : PE X fe tf) (hm : Meth X.K C "__call__" f) (hi : PySem.W.fnIn X.K f = true) (G : FnB X.prog X.w X.K X.mg X.base k f sp) (hr : Rm j X.A) (hx : Passes (L2.CX X.prog X.w) X E) (ha : PA X (e :: es) t) (hk : k ≤ j := by decide)
    (ht : eval (.Call fe (e :: es) [] pos) X.env = (do callWith pos (← eval fe X.env) [] (backTo pos (starEach (e :: es) X.env)) (backToKw pos (keywordEach [] X.env))) := by rfl)
    (he : starEach (e :: es) X.env = (false, eval e X.env) :: starEach es X.env := by rfl) (hpl : (backTo pos (starEach es X.env)).any (·.1) = false := by rfl) : PE X (.Call fe (e :: es) [] pos) (tCoF C sp E tf t) := by
  refine ⟨fun pins s σ H Q I h => ?_⟩
  refine Call_ (thn (hf.run pins s σ H _ I h) fun u s1 ⟨y, H1, I1, ry, a, ey, q⟩ => ?_) ht
  subst ey
  cases (show u = Value.ref a from ry)
  refine StX.callO_with (thn (ha.run pos pins s1 σ H1 _ I1 q) fun us s2 ⟨vs, H2, I2, r, ⟨dx, fs, hi2⟩, q2⟩ => ?_) he hpl
  obtain ⟨ox, od, J, hd⟩ := StX.insC_at (C := C) I2 (.inr ⟨dx, fs, hi2⟩)
  exact ⟨⟨C, ox, od, J, hd⟩, wpAny_call (PySem.W.kco_code I2.kIn J hd hm.at_ hm.fn hi (runB (us := .ref a :: us) (vs := .ref a :: vs) G (hr.mono hk) I2.env0 hx I2 (.cons rfl r) q2))⟩
/-- text * int -/
def rMulS : R2 := fun x y H Q => ∃ (z : Str) (n : Nat), x = .str z ∧ y = .int n ∧ z.length * n ≤ 1000000 ∧ z.length ≤ 1000000 ∧ n ≤ 1000000 ∧ Q (.str (Txt.mul z n)) H
theorem op_rep_str : OpR X (binaryOp .Mult) rMulS := by
  intro pins s σ H x y v u Q I rx ry h
  obtain ⟨z, n, rfl, rfl, h1, h2, h3, q⟩ := h
  obtain ⟨t, e⟩ := (show ∃ t, v = Value.str z t from rx)
  obtain ⟨t', e'⟩ := (show ∃ t, u = Value.int n t from ry)
  subst e
  subst e'
  refine SB.mul ⟨?_, ?_, ?_⟩ fun t' k => ⟨.str _, H, I.tok _, ⟨_, rfl⟩, q⟩
  · have a1 : ¬ ((n : Int) < -(2 ^ 63 : Int)) := by omega
    have a2 : ¬ ((n : Int) ≥ 2 ^ 63) := by omega
    rw [decide_eq_false a1, decide_eq_false a2]
    rfl
  · intro _ _ hgt
    have h4 : (1000000 : Int) ≤ (2 ^ 63 - 1) / (n : Int) := by
      refine Int.le_ediv_of_mul_le (by omega) ?_
      have : (1000000 : Int) * n ≤ 1000000 * 1000000 := Int.mul_le_mul_of_nonneg_left (by omega) (by omega)
      omega
    omega
  · intro _ _
    show decide (z.length * (n : Int).toNat > sizeLine) = false
    rw [Int.toNat_natCast]
    exact decide_eq_false (by rw [sizeLine_eq]; omega)
end
end Ah

/-! more facts for the head -/
namespace Ah
open PySem PySem.Spec PyProof.Rows L2 He
def all7 : List String := ["NoneType", "int", "bool", "str", "list", "tuple", "dict"]
def ownCB (C : Str) (K : Frag) : Bool :=
  eqO (PySem.W.findIn K (.ref (ga K C)) "__class__") (some (some (.builtin "object.__class__"))) &&
  (eqO (PySem.W.specialIn K (.builtin "object.__class__") "__get__") (some (some (.builtin "getset_descriptor.__get__"))) &&
  (decide (PySem.W.takesIn K (.builtin "object.__class__") = some true) && (decide (PySem.W.mroIn K (ga K C) (.type "object") = some true) &&
  (bTys.all fun T => decide (PySem.W.kitOne K (.ref (ga K C)) (.type T) = some false)))))
theorem ownC_ok {C : Str} {K : Frag} (c : Cls K (ga K C)) (h : ownCB C K = true) : OwnC K (ga K C) := by
  unfold ownCB at h
  obtain ⟨h1, h⟩ := ba h
  obtain ⟨h2, h⟩ := ba h
  obtain ⟨h3, h⟩ := ba h
  obtain ⟨h4, h⟩ := ba h
  exact ⟨c, eqO_ok h1, eqO_ok h2, of_decide_eq_true h3, of_decide_eq_true h4, fun T hT => of_decide_eq_true (List.all_eq_true.mp h T hT)⟩
def ownKB (C : Str) (K : Frag) : Bool := all7.all fun T => decide (PySem.W.kitOne K (.type T) (.ref (ga K C)) = some false)
theorem ownK_ok {C : Str} {K : Frag} (h : ownKB C K = true) : OwnK K (ga K C) := ⟨fun T hT => of_decide_eq_true (List.all_eq_true.mp h T hT)⟩
def firstB (C : Str) (K : Frag) : Bool := all7.all fun T => PySem.W.notFirst K (ga K C) (.type T)
theorem first_ok {C : Str} {K : Frag} (h : firstB C K = true) : ∀ T ∈ all7, PySem.W.notFirst K (ga K C) (.type T) = true := fun T hT => List.all_eq_true.mp h T hT
def noNeB (C : Str) (K : Frag) : Bool := eqO (PySem.W.findIn K (.ref (ga K C)) "__ne__") (some (some (.builtin "object.__ne__"))) && PySem.W.excInitIn K (ga K C) [.type "object"] "object.__new__"
theorem noNe_ok {C : Str} {K : Frag} (h : noNeB C K = true) : NoNe K (ga K C) := by
  obtain ⟨h1, h2⟩ := ba h
  exact ⟨eqO_ok h1, h2⟩
def fnInB (C m : Str) (K : Frag) : Bool := PySem.W.fnIn K (ma K (ga K C) m)
/-- a value that is no instance, or one of the class C itself, does not come first in a comparison with an instance of C -/
theorem first_of {K : Frag} {H : Hp} {C : Addr} {x : V} {k : Kn} (hf : ∀ T ∈ all7, PySem.W.notFirst K C (.type T) = true) (h : Is K H x k) (hC : ∀ a D, k = .ins a D → D = C) : PySem.W.notFirst K C k.ty = true := by
  cases h with
  | @ins a D dx fs e c =>
    cases hC a D rfl
    simp [Kn.ty, PySem.W.notFirst]
  | int i => exact hf _ (by decide)
  | bl i => exact hf _ (by decide)
  | str i => exact hf _ (by decide)
  | non => exact hf _ (by decide)
  | lst i => exact hf _ (by decide)
  | tup i => exact hf _ (by decide)
  | dct i => exact hf _ (by decide)
/-! heaps -/
/-- all but a stands as it stood -/
def Ex (a : Addr) (H H' : Hp) : Prop := ∀ b o, b ≠ a → H b = some o → H' b = some o
theorem Ex.refl {a : Addr} {H : Hp} : Ex a H H := fun _ _ _ h => h
theorem Ex.of_same {a : Addr} {H H' : Hp} (s : Same H H') : Ex a H H' := fun b o _ h => s b o h
theorem Ex.trans {a : Addr} {H H1 H2 : Hp} (x : Ex a H H1) (y : Ex a H1 H2) : Ex a H H2 := fun b o n h => y b o n (x b o n h)
theorem Ex.upd {a : Addr} {H H' : Hp} {o : HO} (x : Ex a H H') : Ex a H (L2.upd H' a o) := fun b o' n h => by
  rw [upd_ne n]
  exact x b o' n h
theorem Ex.new {a p : Addr} {H H' : Hp} {o : HO} (x : Ex a H H') (hp : H' p = none) : Ex a H (L2.upd H' p o) := fun b o' n h => upd_keep (x b o' n h) hp
/-- a new place stays new behind -/
theorem Ex.same_free {a : Addr} {H H1 H2 : Hp} (s : Same H H1) (ha : H a = none) (x : Ex a H1 H2) : Same H H2 := fun b o h => x b o (ne_of_none h ha) (s b o h)
end Ah

/-! comprehensions and loops -/
namespace Ah
open PySem PySem.Spec PyProof.Rows L2 He
theorem range_map_succ {α : Type} (f : Nat → α) (n : Nat) : (List.range (n + 1)).map f = (List.range n).map f ++ [f n] := by
  rw [List.range_succ, List.map_append]
  rfl
/-- a comprehension whose element hands back a value and changes nothing that stood: [f 0, .., f (n - 1)] -/
theorem lc_pure {J : It} {n : Nat} {G : Hp → Prop} {Y : Nat → Hp → V → Hp → Prop} (w : Walk J n G Y) {k : Nat} {te : TE} {vs : List Nat} {σ : L2.St} {H1 : Hp} {Qd : Hp → Prop} {D : Addr} (f it : Nat → V) (hn : n ≤ 1000000) (hD : H1 D = none)
    (hG : ∀ H', Same H1 H' → G H') (hY : ∀ i H x H', i < n → Y i H x H' → H' = H ∧ x = it i) (hw : ∀ i, wipe ((wipe σ vs).set k (some (it i))) vs = wipe σ vs)
    (he : ∀ i, i < n → ∀ H' Q', Same H1 H' → (∀ H'', Same H' H'' → Q' (f i) H'') → te ((wipe σ vs).set k (some (it i))) H' Q')
    (hq : ∀ H', Same H1 H' → H' D = some (.lst ((List.range n).map f)) → Qd H') :
    ∃ W : Nat → Nat → Hp → Prop, (∃ m, W 0 m (upd H1 D (.lst []))) ∧ ∀ i m H, W i m H →
      (J.stop i H ∧ Qd H) ∨ (J.go i H ∧ ∃ Nx : Hp → Prop, (∀ H', Nx H' → ∃ m', m' < m ∧ W (i + 1) m' H') ∧ ∀ x H', J.yld i H x H' → gName k x (wipe σ vs) H' fun σ2 H2 => wipe σ2 vs = wipe σ vs ∧ tYes σ2 H2 fun b H3 =>
        if b = true then te σ2 H3 fun y H4 => ∃ acc, H4 D = some (.lst acc) ∧ acc.length < sizeLine ∧ Nx (upd H4 D (.lst (acc ++ [y]))) else Nx H3) := by
  refine lc_it w (fun i H' => Same H1 H' ∧ H' D = some (.lst ((List.range i).map f))) ⟨fun b o e => upd_keep e hD, upd_same⟩ (fun i H' _ p => hG H' p.1) ?_ fun H' p => hq H' p.1 p.2
  intro i x H H' hi p y
  obtain ⟨rfl, rfl⟩ := hY i H x H' hi y
  refine ⟨hw i, ?_⟩
  dsimp only [tYes]
  rw [if_pos rfl]
  refine he i hi _ _ p.1 fun H'' s => ⟨_, s _ _ p.2, ?_, ?_, ?_⟩
  · rw [List.length_map, List.length_range, sizeLine_eq]
    omega
  · intro b o e
    rw [upd_ne (ne_of_none e hD)]
    exact s b o (p.1 b o e)
  · rw [upd_same, range_map_succ]
theorem yStr {z : Str} (i : Nat) (H : Hp) (x : V) (H' : Hp) (y : H' = H ∧ ∃ c, z.cps[i]? = some c ∧ x = .str ⟨#[c]⟩) : H' = H ∧ x = .str ⟨#[z.cps.toList.getD i 0]⟩ := by
  obtain ⟨e, c, hc, rfl⟩ := y
  refine ⟨e, ?_⟩
  have : z.cps.toList[i]? = some c := by simpa using hc
  rw [List.getD_eq_getElem?_getD, this]
  rfl
theorem map_getD_range {α β : Type} (l : List α) (d : α) (g : α → β) : (List.range l.length).map (fun i => g (l.getD i d)) = l.map g := by
  apply List.ext_getElem?
  intro i
  rw [List.getElem?_map, List.getElem?_map]
  by_cases h : i < l.length
  · rw [List.getElem?_range h]
    simp [List.getD_eq_getElem?_getD, h]
  · simp [h]
/-- a new list of values: the walk over a text -/
theorem cps_len (z : Str) : z.cps.size = z.cps.toList.length := by simp
end Ah
namespace Ah
open PySem PySem.Spec PyProof.Rows L2 He
/-! keys -/
def chars : Str := "abcdefghijklmnopqrstuvwxyz0123456789"
def charsL : List Nat := [97, 98, 99, 100, 101, 102, 103, 104, 105, 106, 107, 108, 109, 110, 111, 112, 113, 114, 115, 116, 117, 118, 119, 120, 121, 122, 48, 49, 50, 51, 52, 53, 54, 55, 56, 57]
theorem chars_eq : chars.cps.toList = charsL := by decide +kernel
theorem charsL_small : ∀ c, c < 128 → decide (c ∈ charsL) = keySign c := by decide +kernel
theorem charsL_max : ∀ c ∈ charsL, c < 128 := by decide +kernel
theorem chars_mem (c : Nat) : decide (c ∈ chars.cps.toList) = keySign c := by
  rw [chars_eq]
  by_cases h : c < 128
  · exact charsL_small c h
  · rw [decide_eq_false fun z => h (charsL_max c z)]
    unfold keySign
    rw [decide_eq_false (by omega : ¬ c ≤ 122), decide_eq_false (by omega : ¬ c ≤ 57)]
    simp
theorem str_len (z : Str) : z.length = z.cps.toList.length := by simp [Str.length]
/-- the mix of a key -/
def mixL (b n : Int) (l : List Nat) : Int := l.foldl (fun (h : Int) (c : Nat) => (h * b + (c : Int)) % 2 ^ n.toNat) 0
theorem mixL_snoc (b n : Int) (l : List Nat) (c : Nat) : mixL b n (l ++ [c]) = (mixL b n l * b + (c : Int)) % 2 ^ n.toNat := by
  unfold mixL
  rw [List.foldl_append]
  rfl
theorem pow_pos2 (n : Nat) : (0 : Int) < 2 ^ n := by
  have h : (0 : Int) < ((2 ^ n : Nat) : Int) := Int.natCast_pos.mpr (Nat.two_pow_pos n)
  rw [Int.natCast_pow] at h
  exact h
theorem mixL_range (b n : Int) (l : List Nat) : 0 ≤ mixL b n l ∧ mixL b n l < 2 ^ n.toNat := by
  rcases List.eq_nil_or_concat l with h | ⟨m, c, h⟩
  · subst h
    exact ⟨Int.le_refl 0, pow_pos2 _⟩
  · rw [List.concat_eq_append] at h
    subst h
    rw [mixL_snoc]
    exact ⟨Int.emod_nonneg _ (Int.ne_of_gt (pow_pos2 _)), Int.emod_lt_of_pos _ (pow_pos2 _)⟩
theorem pow32 {n : Int} (h : n ≤ 32) : (2 : Int) ^ n.toNat ≤ 4294967296 := by
  have h1 : n.toNat ≤ 32 := by omega
  have h2 : (2 ^ n.toNat : Nat) ≤ 2 ^ 32 := Nat.pow_le_pow_right (by decide) h1
  have h3 : ((2 ^ n.toNat : Nat) : Int) ≤ ((2 ^ 32 : Nat) : Int) := Int.ofNat_le.mpr h2
  rw [Int.natCast_pow] at h3
  exact h3
theorem take_more {α : Type} {l : List α} {i : Nat} {x : α} (h : l[i]? = some x) : l.take (i + 1) = l.take i ++ [x] := by
  rw [List.take_succ, h]
  rfl
theorem key_small {z : Str} (h : isKeyL z.cps.toList = true) : (Kn.str z).small := by
  unfold isKeyL at h
  show z.length ≤ 1000000
  rw [str_len]
  simp at h
  rw [Array.length_toList]
  omega
end Ah

/-! fields, pools -/
namespace Ah
open PySem PySem.Spec PyProof.Rows L2 He
theorem look0 {f : Str} {v : V} {r : List (Str × V)} : List.lookup f ((f, v) :: r) = some v := by simp [List.lookup]
theorem lookS {f g : Str} {w : V} {r : List (Str × V)} (h : f ≠ g) : List.lookup f ((g, w) :: r) = List.lookup f r := by
  have e : (f == g) = false := by simpa using h
  simp [List.lookup, e]
theorem putF0 {f : Str} {v : V} : putF f v [] = [(f, v)] := rfl
theorem putF_hit {f : Str} {v w : V} {r : List (Str × V)} : putF f v ((f, w) :: r) = (f, v) :: r := by
  show (if f = f then _ else _) = _
  rw [if_pos rfl]
theorem putFS {f g : Str} {v w : V} {r : List (Str × V)} (h : g ≠ f) : putF f v ((g, w) :: r) = (g, w) :: putF f v r := by
  show (if g = f then _ else _) = _
  rw [if_neg h]
end Ah
namespace Ah
open PySem PySem.Spec PyProof.Rows L2 He
theorem ixL {K : Frag} {H : Hp} {a : Addr} {xs : List V} {i : Int} {v : V} {Q : VK} (h : SqL K H a xs) (e : atI xs i = some v) (q : Q v H) : rIxL K (.ref a) (.int i) H Q := ⟨a, xs, i, v, rfl, rfl, h, e, q⟩
theorem ixT {K : Frag} {H : Hp} {a : Addr} {xs : List V} {i : Int} {v : V} {Q : VK} (h : SqT K H a xs) (e : atI xs i = some v) (q : Q v H) : rIxT K (.ref a) (.int i) H Q := ⟨a, xs, i, v, rfl, rfl, h, e, q⟩
theorem setL {H : Hp} {a : Addr} {xs : List V} {i : Int} {j : Nat} {v : V} {Q : Hp → Prop} (h : H a = some (.lst xs)) (e : ixN xs.length i = some j) (q : Q (upd H a (.lst (xs.set j v)))) : rSetL (.ref a) (.int i) v H Q := ⟨a, xs, i, j, rfl, rfl, h, e, q⟩
theorem head_int (l : List Int) : ∃ i, atI (l.map V.int ++ [V.int 0]) 0 = some (V.int i) := by
  cases l with
  | nil => exact ⟨0, rfl⟩
  | cons x r =>
    refine ⟨x, ?_⟩
    unfold atI
    have e : ixN ((List.map V.int (x :: r) ++ [V.int 0]).length) 0 = some 0 := by
      simp [ixN]
      omega
    rw [e]
    rfl
theorem cutV_int (l : List Int) (lo hi : Option Int) : ∃ l' : List Int, cutV (l.map V.int) lo hi = l'.map V.int ∧ l'.length ≤ l.length := by
  refine ⟨(l.drop (HT.sIx (l.map V.int).length 0 lo)).take (HT.sIx (l.map V.int).length (l.map V.int).length hi - HT.sIx (l.map V.int).length 0 lo), ?_, ?_⟩
  · unfold cutV
    rw [List.map_take, List.map_drop]
  · rw [List.length_take, List.length_drop]
    omega
end Ah

/-! data compared -/
namespace Ah
open PySem PySem.Spec PyProof.Rows L2 He
theorem neD_same {K : Frag} {H : Hp} {x y : V} {Q : VK} (d : PyData) (hx : Dp K H x d) (hy : Dp K H y d) (hs : SeqAt.shaped d = true) (q : Q (.bl false) H) : rNeD K x y H Q := by
  refine ⟨d, d, hx, hy, hs, hs, ?_⟩
  rw [SeqAt.eqv_refl d (SeqAt.canLay_of_shaped hs)]
  exact q
theorem eqD_same {K : Frag} {H : Hp} {x y : V} {Q : VK} (d : PyData) (hx : Dp K H x d) (hy : Dp K H y d) (hs : SeqAt.shaped d = true) (q : Q (.bl true) H) : rEqD K x y H Q := by
  refine ⟨d, d, hx, hy, hs, hs, ?_⟩
  rw [SeqAt.eqv_refl d (SeqAt.canLay_of_shaped hs)]
  exact q
theorem dpInts {K : Frag} {H : Hp} : ∀ ns : List Int, DpAll K H (ns.map V.int) (ns.map PyData.int)
  | [] => .nil
  | n :: r => .cons (.int n) (dpInts r)
theorem shaped_ints (ns : List Int) : SeqAt.shaped (.list (ns.map PyData.int)) = true := by
  have h1 : ∀ ns : List Int, PyData.canLayAll0 (ns.map PyData.int) = true := by
    intro ns
    induction ns with
    | nil => rfl
    | cons n r ih => exact Bool.and_eq_true_iff.mpr ⟨rfl, ih⟩
  have h2 : ∀ ns : List Int, PyData.depthAll (ns.map PyData.int) = 0 := by
    intro ns
    induction ns with
    | nil => rfl
    | cons n r ih =>
      show max 0 (PyData.depthAll (r.map PyData.int)) = 0
      rw [ih]
      rfl
  refine Bool.and_eq_true_iff.mpr ⟨h1 ns, decide_eq_true ?_⟩
  show PyData.depthAll (ns.map PyData.int) + 1 ≤ 64
  rw [h2]
  decide
/-- two lists of the same ints -/
theorem neInts {K : Frag} {H : Hp} {p r : Addr} {Q : VK} (ns : List Int) (h1 : H p = some (.lst (ns.map V.int))) (h2 : H r = some (.lst (ns.map V.int))) (q : Q (.bl false) H) : rNeD K (.ref p) (.ref r) H Q :=
  neD_same (.list (ns.map PyData.int)) (.lst (SqL.of h1) (dpInts ns)) (.lst (SqL.of h2) (dpInts ns)) (shaped_ints ns) q
theorem strOk_key {z : Str} (h : isKeyL z.cps.toList = true) : PyData.strOk z = true := by
  unfold isKeyL at h
  have h3 := (Bool.and_eq_true_iff.mp h).2
  unfold PyData.strOk
  rw [← Array.all_toList]
  refine List.all_eq_true.mpr fun c hc => ?_
  have := List.all_eq_true.mp h3 c hc
  unfold keySign at this
  simp at this
  exact decide_eq_true (by omega)
/-- two tuples of one int and one text -/
theorem nePlace {K : Frag} {H : Hp} {p r : Addr} {Q : VK} {i : Int} {z : Str} (hz : PyData.strOk z = true) (h1 : H p = some (.tup [.int i, .str z])) (h2 : H r = some (.tup [.int i, .str z])) (q : Q (.bl false) H) : rNeD K (.ref p) (.ref r) H Q := by
  refine neD_same (.tuple [.int i, .str z]) (.tup (SqT.of h1) (.cons (.int i) (.cons (.str z) .nil))) (.tup (SqT.of h2) (.cons (.int i) (.cons (.str z) .nil))) ?_ q
  refine Bool.and_eq_true_iff.mpr ⟨?_, decide_eq_true (show max 0 (max 0 0) + 1 ≤ 64 by decide)⟩
  show (true && (PyData.strOk z && true)) = true
  rw [hz]
  rfl
end Ah
namespace Ah
open PySem PySem.Spec PyProof.Rows L2 He
theorem iteF' {c : Bool} {A B : Prop} (h : c = false) (hb : B) : if c = true then A else B := by
  rw [h]
  exact iteF hb
theorem iteT' {c : Bool} {A B : Prop} (h : c = true) (ha : A) : if c = true then A else B := by
  rw [h]
  exact iteT ha
/-- a pool of a law: a list of two ints -/
def PoolAt (H : Hp) (a : Addr) : Prop := ∃ p q : Int, H a = some (.lst [.int p, .int q])
theorem PoolAt.same {H H' : Hp} {a : Addr} (h : PoolAt H a) (s : Same H H') : PoolAt H' a := by
  obtain ⟨p, q, h⟩ := h
  exact ⟨p, q, s _ _ h⟩
theorem PoolAt.ne {H : Hp} {a b : Addr} (h : PoolAt H a) (hb : H b = none) : b ≠ a := by
  obtain ⟨p, q, h⟩ := h
  exact (ne_of_none h hb).symm
theorem tl_app (x y : Str) : (x ++ y).cps.toList = x.cps.toList ++ y.cps.toList := TL.tl_append x y
theorem notKey_snoc {x y : Str} {c : Nat} (h : y.cps.toList = [c]) (hc : keySign c = false) : isKeyL (x ++ y).cps.toList = false := by
  rw [tl_app, h]
  unfold isKeyL
  rw [List.all_append]
  have : ([c].all keySign) = false := by simp [hc]
  rw [this]
  simp
theorem notKey_long {x y : Str} (h : 20 ≤ y.cps.toList.length) (hx : 1 ≤ x.cps.toList.length) : isKeyL (x ++ y).cps.toList = false := by
  rw [tl_app]
  unfold isKeyL
  rw [decide_eq_false (p := (x.cps.toList ++ y.cps.toList).length ≤ 20) (by rw [List.length_append]; omega)]
  simp
theorem key_len {l : List Nat} (h : isKeyL l = true) : 1 ≤ l.length ∧ l.length ≤ 20 := by
  unfold isKeyL at h
  simp at h
  omega
theorem slice_to_len (z : Str) (n : Nat) : (Txt.slice z none (some (n : Int))).length ≤ z.length := by
  have e : z = SX.S z.cps.toList := (SX.S_tl z).symm
  rw [e, SX.slice_to (Int.natCast_nonneg n), SX.S_len, SX.S_len, List.length_take]
  omega
theorem str_small {z : Str} {n : Nat} (h : z.length ≤ n) (hn : n ≤ 1000000) : (Kn.str z).small := Nat.le_trans h hn
end Ah

/-! own exceptions over one of four built-in ones -/
namespace Ah
open PySem PySem.Spec PyProof.Rows L2 He
inductive EB where
  | ve | le | re | oe
def EB.nm : EB → String
  | .ve => "ValueError" | .le => "LookupError" | .re => "RuntimeError" | .oe => "OverflowError"
def EB.nw : EB → String
  | .ve => "ValueError.__new__" | .le => "LookupError.__new__" | .re => "RuntimeError.__new__" | .oe => "OverflowError.__new__"
def EB.it : EB → String
  | .ve => "ValueError.__init__" | .le => "LookupError.__init__" | .re => "RuntimeError.__init__" | .oe => "OverflowError.__init__"
def EB.tl : EB → List Value
  | .ve => [.type "ValueError", .type "Exception", .type "BaseException", .type "object"]
  | .le => [.type "LookupError", .type "Exception", .type "BaseException", .type "object"]
  | .re => [.type "RuntimeError", .type "Exception", .type "BaseException", .type "object"]
  | .oe => [.type "OverflowError", .type "ArithmeticError", .type "Exception", .type "BaseException", .type "object"]
theorem EB.base (b : EB) : ExcBaseFacts b.nm b.nw b.it b.tl := by
  cases b
  · exact F.excBase_ValueError
  · exact F.excBase_LookupError
  · exact F.excBase_RuntimeError
  · exact F.excBase_OverflowError
theorem EB.store (b : EB) : StoreFacts b.nm b.tl "object.__setattr__" "object" := by
  cases b
  · exact F.store_ValueError
  · exact F.store_LookupError
  · exact F.store_RuntimeError
  · exact F.store_OverflowError
/-- what the written part says of such a class -/
structure OexG (K : Frag) (C : Addr) : Prop where
  cls : ∃ (b : EB) (nm q : Str) (N : Addr) (bs : List Value) (sn : List Str) (sub : List Value) (ab : Bool) (col : Option Bool) (dd : Option Addr) (k0 k1 k2 k3 k5 : Option Value), K.lookup C = some (excClassObj nm q C N bs b.tl true sn sub ab col dd k0 k1 k2 k3 k5 b.nw)
  sa : PySem.W.findIn K (.ref C) "__setattr__" = some (some (.builtin "object.__setattr__"))
  exC : PySem.W.subIn K (.ref C) (.type "BaseException") = some true
  tyC : PySem.W.typeIn K (.ref C) = some (.type "type")
  kC : PySem.W.keepIn K (.ref C) = true
theorem tail_self (b : EB) : PySem.W.excTail b.tl b.tl = true := by cases b <;> decide +kernel
section
variable {K : Frag} {C : Addr}
theorem OexG.over (T : OexG K C) : ∃ b : EB, PySem.W.excOver K C b.tl = true ∧ ∃ cd, PySem.W.clsIn K C = some cd ∧ cd.hasDict = true := by
  obtain ⟨b, nm, q, N, bs, sn, sub, ab, col, dd, k0, k1, k2, k3, k5, hC⟩ := T.cls
  have hcl : PySem.W.clsIn K C = some { name := nm, bases := bs, mro := .ref C :: b.tl, ns := N, qualname := q, hasDict := true, slotNames := sn, subclasses := sub, abstract := ab, collection := col, hasDel := false } := by
    unfold PySem.W.clsIn
    rw [hC] <;> rfl
  refine ⟨b, ?_, _, hcl, rfl⟩
  unfold PySem.W.excOver
  rw [hcl]
  show (C == C && PySem.W.excTail b.tl b.tl) = true
  rw [tail_self b]
  simp
end
section
variable {prog : Program} {w : World} {A : Around} {hp : Heap} {g : Array GenState} {d : Drawn} {t : Nat} {os : OsState} {R : Result → Shared → Prop}
/-- the first field: the dict is laid -/
theorem osaN {K : Frag} {name : Str} {tk : Tok} {v : Value} {x C : Addr} {fv : Array Value} (T : OexG K C) (X : K.In hp) (hx : hp.get? x = some { cls := .ref C, data := .fields fv }) (ha : PySem.W.findIn K (.ref C) name = some none)
    (hq : ∀ h' tk' dx, (∀ b o, b ≠ x → hp.get? b = some o → h'.get? b = some o) → hp.objs.size ≤ dx → dx ≠ x → h'.get? x = some { cls := .ref C, dict := some dx, data := .fields fv } →
      h'.Ns1 dx (fun y => if y = name then some v else none) → R (.ok (.ret .none)) ⟨h', g, d, tk', os⟩) :
    codeAny (model prog w) A (.call (.builtin "object.__setattr__") ⟨[.ref x, .str name tk, v], []⟩) R ⟨hp, g, d, t, os⟩ := by
  obtain ⟨b, ho, cd, hcd, hh⟩ := T.over
  have hxs : x ≠ hp.objs.size := Nat.ne_of_lt (Heap.lt_size hx)
  refine PySem.W.osa_openX (s := ⟨hp, g, d, t, os⟩) (od := none) (r := none) b.store X ⟨hx, rfl, rfl, trivial⟩ ho (by unfold PySem.W.takerIn; rw [ha]; rfl) fun bb => ?_
  have hcls : PySem.W.Looks (model prog w) hp (classData C) cd := PySem.W.looks_clsIn X hcd
  dsimp only
  obtain ⟨nm, bs, mro, ns, qn, hd, sn, sb, ab, col, del⟩ := cd
  dsimp only at hh
  subst hh
  unfold PySem.Builtin.ObjectAttr.storeInOwnDict PySem.Builtin.ObjectAttr.ownDictForStores
  repeat (first | with_reducible refine PySem.HandSPX.store_in_new ?_ ?_ | with_reducible refine wpAny_loadPart_at hx ?_ | with_reducible refine hcls.at ?_ | wp_step)
  · exact ⟨_, #[], _, (Heap.get?_update_ne _ _ _ _ hxs.symm).trans (Heap.get?_push_at rfl rfl), rfl, fun e he => absurd he (by simp), fun _ => rfl⟩
  · intro h' tk' hn' hs
    have hx₁ : (hp.push { cls := .type "dict", data := .dict #[] }).get? x = some { cls := .ref C, data := .fields fv } := Heap.get?_push_of_some _ hx
    refine hq h' tk' hp.objs.size (fun b o hb ho => ?_) (Nat.le_refl _) hxs.symm ?_ hn'
    · exact (hs.2 b (Nat.ne_of_lt (Heap.lt_size ho))).trans ((Heap.get?_update_ne _ _ _ _ hb).trans (Heap.get?_push_of_some _ ho))
    · exact (hs.2 x hxs).trans (Heap.get?_update_self _ hx₁ rfl)
/-- a further field -/
theorem osaO {K : Frag} {name : Str} {tk : Tok} {v : Value} {x C dx : Addr} {fv : Array Value} {m0 : Str → Option Value} {nl : List Str} (T : OexG K C)
    (X : K.In hp) (hx : hp.get? x = some { cls := .ref C, dict := some dx, data := .fields fv }) (hns : hp.Ns1 dx m0) (hw : PySem.Within m0 nl) (hz : nl.length ≤ 1000) (ha : PySem.W.findIn K (.ref C) name = some none)
    (hq : ∀ h' tk', (∀ b o, b ≠ dx → hp.get? b = some o → h'.get? b = some o) → h'.Ns1 dx (fun y => if y = name then some v else m0 y) → R (.ok (.ret .none)) ⟨h', g, d, tk', os⟩) :
    codeAny (model prog w) A (.call (.builtin "object.__setattr__") ⟨[.ref x, .str name tk, v], []⟩) R ⟨hp, g, d, t, os⟩ := by
  obtain ⟨oD, esD, epD, hoD, hdD, _⟩ := hns.count hw
  obtain ⟨b, ho, cd, hcd, hh⟩ := T.over
  refine PySem.W.osa_openX (s := ⟨hp, g, d, t, os⟩) (od := some oD) (r := none) b.store X ⟨hx, rfl, rfl, hoD⟩ ho (by unfold PySem.W.takerIn; rw [ha]; rfl) fun bb => ?_
  have hcls : PySem.W.Looks (model prog w) hp (classData C) cd := PySem.W.looks_clsIn X hcd
  dsimp only
  obtain ⟨nm, bs, mro, ns, qn, hd, sn, sb, ab, col, del⟩ := cd
  dsimp only at hh
  subst hh
  unfold PySem.Builtin.ObjectAttr.storeInOwnDict PySem.Builtin.ObjectAttr.ownDictForStores
  repeat (first | with_reducible refine PySem.OEX.store_in_old hns hw hz ?_ | with_reducible refine wpAny_loadPart_at hx ?_ | with_reducible refine hcls.at ?_ | wp_step)
  intro h' tk' hn' hs
  exact hq h' tk' (fun b o hb ho => (hs.2 b hb).trans ho) hn'
end
section
variable {X : Cx} {pins : List (Addr × Obj)} {σ : L2.St} {H : Hp} {s : Shared} {a C dx : Addr} {f : Str} {y : V} {u : Value} {fs : List (Str × V)} {Q : Unit → Shared → Prop} {E : Value → Shared → Prop} {A : Around}
theorem stN (T : OexG X.K C) (I : L2.Inv X pins σ H s) (e : H a = some (exo a C none)) (hno : PySem.W.findIn X.K (.ref C) f = some none) (ry : RelV y u)
    (h : ∀ dx s', H dx = none → dx ≠ a → L2.Inv X pins σ (upd (upd H dx (exd dx [(f, y)])) a (exo a C (some dx))) s' → Q () s') : wpAny (model X.prog X.w) A (setAttr (.ref a) f u) Q E s := by
  obtain ⟨t1, ho⟩ := exo_at I.hok e
  obtain ⟨hp, g, d, t, os⟩ := s
  refine PySem.W.set_plain I.kIn (ox := { cls := .ref C, dict := none, data := .fields #[.ref t1, .none, .none, .none, .bool false, .none] }) (od := none) ⟨ho, rfl, rfl, trivial⟩ T.sa ?_
  refine osaN T I.kIn ho hno (fun h' tk' dx k dn dne hx hn => ?_)
  have hnd : H dx = none := I.hok.fresh dn
  have nd : ∀ {b : Addr} {o : Obj}, hp.get? b = some o → b ≠ dx := fun q => Nat.ne_of_lt (Nat.lt_of_lt_of_le (Heap.lt_size q) dn)
  have na : ∀ {b : Addr}, H b = none → b ≠ a := fun n z => by rw [z, e] at n; cases n
  have off : ∀ {b : Addr} {v : HO}, H b = some v → v ≠ exo a C none → upd (upd H dx (exd dx [(f, y)])) a (exo a C (some dx)) b = some v := fun {b v} q n => by
    have hba : b ≠ a := fun z => by
      rw [z, e] at q
      exact n (Option.some.inj q).symm
    rw [upd_ne hba, upd_ne (ne_of_none q hnd)]
    exact q
  have U : Un X.fs [] H (upd (upd H dx (exd dx [(f, y)])) a (exo a C (some dx))) hp h' := {
    keep := fun b o q n _ _ => k b o (na n) q
    slot := fun b o q n _ _ => ⟨o.slots, k b o (na n) q⟩
    free := fun b o q n _ => by rw [upd_ne (na n), upd_ne (nd q)]; exact n
    there := fun b o q _ => by
      by_cases hb : b = a
      · subst hb
        exact ⟨_, hx⟩
      · exact ⟨o, k b o hb q⟩
    tups := fun b xs q => off q (fun z => exo_tup z.symm)
    frzs := fun b o v q => off q (fun z => exo_frz z.symm)
    tbls := fun b ps q => ⟨#[], by rw [off q (fun z => exo_tbl z.symm)]; simp⟩ }
  refine h dx _ hnd dne (I.un (t' := tk') U fun b o q => ?_)
  by_cases hb : b = a
  · subst hb
    rw [upd_same] at q
    cases q
    exact exo_ok hx
  · rw [upd_ne hb] at q
    by_cases hd : b = dx
    · subst hd
      rw [upd_same] at q
      cases q
      exact exd_ok hn (relO_put (fs := []) ry fun g => True.intro)
    · rw [upd_ne hd] at q
      refine (I.hok b o q).stay (fun c v hc z => k c v (fun hca => ?_) z) (fun c hc => off hc (fun z => exo_own z.symm)) (fun c xs hc => off hc (fun z => exo_tup z.symm))
      rcases hc with hc | hc
      · exact hb (hc.symm.trans hca)
      · rw [hca, e] at hc
        exact exo_own (Option.some.inj hc)
theorem stO (T : OexG X.K C) (I : L2.Inv X pins σ H s) (e : H a = some (exo a C (some dx))) (ed : H dx = some (exd dx fs)) (hl : fs.length ≤ 900) (hno : PySem.W.findIn X.K (.ref C) f = some none) (ry : RelV y u)
    (h : ∀ s', L2.Inv X pins σ (upd H dx (exd dx ((f, y) :: fs))) s' → Q () s') : wpAny (model X.prog X.w) A (setAttr (.ref a) f u) Q E s := by
  obtain ⟨t1, ho⟩ := exo_at I.hok e
  obtain ⟨mA, hns, rel⟩ := exd_at I.hok ed
  have hw := within_of rel
  obtain ⟨hp, g, d, t, os⟩ := s
  obtain ⟨oD, _, _, hoD, _, _⟩ := hns.count hw
  refine PySem.W.set_plain I.kIn (ox := { cls := .ref C, dict := some dx, data := .fields #[.ref t1, .none, .none, .none, .bool false, .none] }) (od := some oD) ⟨ho, rfl, rfl, hoD⟩ T.sa ?_
  refine osaO T I.kIn ho hns hw (by rw [List.length_map]; omega) hno (fun h' tk' k hn => ?_)
  obtain ⟨o, es, ep, e', r⟩ := id hn
  exact h _ (I.write (t' := tk') (x := dx) (e := dx) (o := exd dx ((f, y) :: fs)) (by rw [ed]; exact True.intro) (.inl rfl) k ⟨o, e'⟩ (exd_ok hn (relO_put ry rel)))
end
/-- self.f = e in __init__ of an own exception -/
def tStG (K : Frag) (f : Str) (to te : TE) : TS := fun D σ H => te σ H fun y H1 => to σ H1 fun x H2 => ∃ a C : Addr, x = .ref a ∧ OexG K C ∧ PySem.W.findIn K (.ref C) f = some none ∧
  ((H2 a = some (exo a C none) ∧ ∀ dx, H2 dx = none → dx ≠ a → D.nx σ (upd (upd H2 dx (exd dx [(f, y)])) a (exo a C (some dx)))) ∨
    ∃ (dx : Addr) (fs : List (Str × V)), H2 a = some (exo a C (some dx)) ∧ H2 dx = some (exd dx fs) ∧ fs.length ≤ 900 ∧ D.nx σ (upd H2 dx (exd dx ((f, y) :: fs))))
section
variable {X : Cx} {o e : Expr} {es : List Expr} {to te : TE} {ta : TA} {f : Str} {p p' p1 p2 pos : Pos}
theorem ps_stG (ho : PE X o to) (he : PE X e te) (hs : swapsWith e (some (.Attribute o f p')) pos.line X.env = pure false := by rfl) : PS X (.Assign [.Attribute o f p'] e pos) (tStG X.K f to te) := by
  refine ⟨fun pins s σ H D I h => plainObj_wpAny_Assign_Attribute (thn (he.run pins s σ H _ I h) fun v s1 ⟨y, H1, I1, r1, q1⟩ => thn (ho.run pins s1 σ H1 _ I1 q1) fun u s2 ⟨x, H2, I2, r2, a, C, ex, T, hno, q⟩ => ?_) hs⟩
  subst ex
  obtain rfl : u = Value.ref a := r2
  rcases q with ⟨ea, q⟩ | ⟨dx, fs, ea, ed, hl, q⟩
  · exact stN T I2 ea hno r1 fun dx s' n ne J => ⟨σ, _, J, q dx n ne⟩
  · exact stO T I2 ea ed hl hno r1 fun s' J => ⟨σ, _, J, q⟩
/-- C(e, ..) -/
theorem pmkG {CX : CXT} {x : Str} {C fI : Addr} {k : Nat} {fd : FuncData} {ps : List Str} {sp : Sp} (T : OexG X.K C) (iC : PySem.W.findIn X.K (.ref C) "__init__" = some (some (.ref fI))) (tI : PySem.W.typeIn X.K (.ref fI) = some (.type "function"))
    (F1 : FnOk X.prog X.w X.K X.mg X.base CX k fI fd ps sp) (hr : Room (k + 1) X.A) (hb : Binds X.K fd ps []) (hx : Passes CX X (fun _ _ _ => False)) (hg : Gl X x) (hm : X.mg x = some (.ref C)) (ha : PA X (e :: es) ta)
    (hdb : (x == ("__debug__" : Str)) = false := by decide) (he : starEach (e :: es) X.env = (false, eval e X.env) :: starEach es X.env := by rfl) (hpl : (backTo pos (starEach es X.env)).any (·.1) = false := by rfl) :
    PMk X (.Call (.Name x p) (e :: es) [] pos) (tMkO C sp [] ta) := by
  intro pins s σ H Q I h
  obtain ⟨b, nm, q, N, bs, sn, sub, ab, col, dd, k0, k1, k2, k3, k5, hC⟩ := T.cls
  refine wpAny_Call_Name_kw (ld_glob I hg hm ?_ hdb)
  refine PySem.W.callWith_K (h₀ := X.base) I.ok.mod.kin T.kC (thn (ha.run pos pins s σ H _ I h) fun us s1 ⟨vs, H1, I1, r1, hz, q1⟩ => ⟨I1.kIn, ?_⟩) he hpl
  show wpAny _ _ (call (.ref C) us) _ _ _
  obtain ⟨hp, g, dr, tk, os⟩ := s1
  have hsz : hp.objs.size ≤ hp.objs.size + 1 := Nat.le_succ _
  have hn : H1 (hp.objs.size + 1) = none := I1.hok.fresh hsz
  have hq := q1 (hp.objs.size + 1) hn
  rw [List.append_nil] at hq
  have kk : ∀ b o, hp.get? b = some o → ((hp.push (PySem.W.kdv_tup us)).push (PySem.HandSPX.excO C hp.objs.size)).get? b = some o := fun b o e => Heap.get?_push_of_some _ (Heap.get?_push_of_some _ e)
  have hget : ((hp.push (PySem.W.kdv_tup us)).push (PySem.HandSPX.excO C hp.objs.size)).get? (hp.objs.size + 1) = some (PySem.HandSPX.excO C hp.objs.size) := by heap_get
  have I2 : L2.Inv X pins σ (upd H1 (hp.objs.size + 1) (exo (hp.objs.size + 1) C none)) ⟨(hp.push (PySem.W.kdv_tup us)).push (PySem.HandSPX.excO C hp.objs.size), g, dr, tk, os⟩ :=
    I1.laid (t' := tk) (a := hp.objs.size + 1) (o := exo (hp.objs.size + 1) C none) (h' := (hp.push (PySem.W.kdv_tup us)).push (PySem.HandSPX.excO C hp.objs.size)) kk hsz (exo_ok hget)
  have r2 : Vals (V.ref (hp.objs.size + 1) :: vs) (Value.ref (hp.objs.size + 1) :: us) := .cons rfl r1
  have hl : (Value.ref (hp.objs.size + 1) :: us ++ []).length = ps.length := by
    rw [List.append_nil, ← r2.length]
    exact F1.len _ _ _ _ hq
  have hus : us.length ≤ sizeLine := by
    rw [← Paired.length r1, sizeLine_eq]
    omega
  have bb := hb _ (Value.ref (hp.objs.size + 1) :: us) I2.kIn hl
  rw [List.append_nil] at bb
  refine wpAny_call (PySem.HandSPX.call_own b.base (fun Y => rfl) (I1.kIn _ _ hC) (PySem.W.looks_findIn I1.kIn iC) (fun self => PySem.W.bind_fn I1.kIn self tI) hus
    (codeAny_mono (F1.run _ X.stack _ _ ⟨Value.ref (hp.objs.size + 1) :: us, []⟩ (Value.ref (hp.objs.size + 1) :: us) _ _ (fun _ _ _ => False) (hr.make C us []) (I2.env0.make C us []) bb r2 hq) fun r s' hq' => ?_))
  match r, hq' with
  | .error er, hq' => exact hx pins σ _ _ er s' I2 hq'
  | .ok (.ret u), hq' =>
    obtain ⟨v, H2, os2, bare2, un2, hok2, rv, ev, d, fs, ea, ed, hd1, q2⟩ := hq'
    subst ev
    obtain ⟨h2, g2, d2, t2, os'⟩ := s'
    exact ⟨rv, mk_end (raises_own T.exC T.tyC) I1 hsz kk un2 hok2 os2 bare2 ea ed hd1 q2⟩
end
end Ah

/-! exceptions of the program's own over ValueError, with one or two fields -/
namespace Ah
open PySem PySem.Spec PyProof.Rows L2 He
def oexB (b : EB) (C : Str) (K : Frag) : Bool :=
  (match K.lookup (ga K C) with
    | some ⟨.type "type", _, .cls cd, sl⟩ => (match cd.mro, sl.toList with
      | .ref C' :: bm, [_, _, _, _, some (.builtin n), _] => C' == ga K C && (n == b.nw && (!cd.hasDel && (cd.hasDict && (bm == b.tl))))
      | _, _ => false)
    | _ => false) &&
  (eqO (PySem.W.findIn K (.ref (ga K C)) "__setattr__") (some (some (.builtin "object.__setattr__"))) &&
  (decide (PySem.W.subIn K (.ref (ga K C)) (.type "BaseException") = some true) && (decide (PySem.W.typeIn K (.ref (ga K C)) = some (.type "type")) && PySem.W.keepIn K (.ref (ga K C)))))
theorem oex_ok {b : EB} {C : Str} {K : Frag} (h : oexB b C K = true) : OexG K (ga K C) := by
  unfold oexB at h
  obtain ⟨h0, h⟩ := ba h
  obtain ⟨h1, h⟩ := ba h
  obtain ⟨h2, h⟩ := ba h
  obtain ⟨h3, h4⟩ := ba h
  refine ⟨?_, eqO_ok h1, of_decide_eq_true h2, of_decide_eq_true h3, h4⟩
  split at h0
  · rename_i dd cd sl ho
    split at h0
    · rename_i C' bm k0 k1 k2 k3 n k5 hm hsl
      obtain ⟨e1, h0⟩ := ba h0
      obtain ⟨e2, h0⟩ := ba h0
      obtain ⟨e3, h0⟩ := ba h0
      obtain ⟨e4, e5⟩ := ba h0
      have e1' : C' = ga K C := beq_iff_eq.mp e1
      have e2' : n = b.nw := beq_iff_eq.mp e2
      have e5' : bm = b.tl := beq_iff_eq.mp e5
      subst e1' e2' e5'
      obtain ⟨nm, bs, mro, ns, qn, hd, sn, sb, ab, col, del⟩ := cd
      dsimp only at hm e3 e4
      subst hm
      have e3' : del = false := by simpa using e3
      have e4' : hd = true := e4
      subst e3' e4'
      have es : sl = #[k0, k1, k2, k3, some (.builtin b.nw), k5] := by
        apply Array.ext'
        rw [hsl]
      subst es
      exact ⟨b, _, _, _, _, _, _, _, _, _, _, _, _, _, _, ho⟩
    · cases h0
  · cases h0
/-- what __init__ of a class with one field keeps -/
def spX1 (C : Addr) (f : Str) : Sp := fun vs H Q _ => ∃ (a : Addr) (v : V), vs = [.ref a, v] ∧ H a = some (exo a C none) ∧ ∀ dx, H dx = none → dx ≠ a → Q .non (upd (upd H dx (exd dx [(f, v)])) a (exo a C (some dx)))
def spX2 (C : Addr) (f g : Str) : Sp := fun vs H Q _ => ∃ (a : Addr) (v w : V), vs = [.ref a, v, w] ∧ H a = some (exo a C none) ∧ ∀ dx, H dx = none → dx ≠ a → Q .non (upd (upd (upd H dx (exd dx [(f, v)])) a (exo a C (some dx))) dx (exd dx [(g, w), (f, v)]))
/-- the def at f keeps sp, whatever is under way -/
structure FnU (P : Program) (w : World) (K : Frag) (mg : Str → Option Value) (base : Heap) (k : Nat) (f : Addr) (sp : Sp) : Prop where
  ex : ∃ fd ps, FnOk P w K mg base (L2.CX P w) k f fd ps sp ∧ Binds K fd ps []
theorem okU {P : Program} {w : World} {K : Frag} {mg : Str → Option Value} {base : Heap} {N ps : List Str} {k : Nat} {sp : Sp} {d : DefG} (S : Stands K d) (h0 : d.dfl = []) (sc : FnScope N ps d.scope) (len : ∀ vs H Q E, sp vs H Q E → vs.length = ps.length)
    (hb : ∀ (kV doc pm : Value) (an : Option Addr) (cdv ct : Value) (us : List Value), us.length = ps.length → bindArgs (PySem.W.fnOf d.name d.qual d.params d.body d.scope .none kV doc pm an cdv ct) ⟨us, []⟩ = pure (ps.zip us))
    (hbody : ∀ (cdv : Value) (A : Around) (outer : List Env) (s : Shared) (H : Hp) (vs : List V) (Q : VK) (E : XK), Room k (A.deeper (envOfC d.qual d.scope s.heap.objs.size (d.ad K) cdv)) → sp vs H Q E →
      ∃ t, PSs (cxOf (L2.CX P w) P w K mg base N d.qual d.scope (d.ad K) cdv A outer s H E) d.body t ∧ t { nx := fun _ H' => Q .non H', rt := Q } (L2.start N vs) H) : FnU P w K mg base (k + 1) (d.ad K) sp := by
  obtain ⟨fd, F⟩ := S
  have e : d.dvs K = [] := by unfold DefG.dvs; rw [h0]; rfl
  rw [e] at F
  exact ⟨⟨fd, ps, F.ok sc len hbody, F.bindsN hb⟩⟩
/-- the class as a raise asks it -/
structure ExcT (K : Frag) (mg : Str → Option Value) (C : Str) : Prop where
  g : mg C = some (.ref (ga K C))
  o : OexG K (ga K C)
  i : PySem.W.findIn K (.ref (ga K C)) "__init__" = some (some (.ref (ma K (ga K C) "__init__")))
  t : PySem.W.typeIn K (.ref (ma K (ga K C) "__init__")) = some (.type "function")
def excTB (b : EB) (C : Str) (K : Frag) : Bool := oexB b C K && (eqO (PySem.W.findIn K (.ref (ga K C)) "__init__") (some (some (.ref (ma K (ga K C) "__init__")))) && decide (PySem.W.typeIn K (.ref (ma K (ga K C) "__init__")) = some (.type "function")))
theorem excT_ok {b : EB} {C : Str} {K : Frag} {mg : Str → Option Value} (g : mg C = some (.ref (ga K C))) (h : excTB b C K = true) : ExcT K mg C := by
  obtain ⟨h1, h⟩ := ba h
  obtain ⟨h2, h3⟩ := ba h
  exact ⟨g, oex_ok h1, eqO_ok h2, of_decide_eq_true h3⟩
section
variable {X : Cx} {C : Str} {e : Expr} {es : List Expr} {ta : TA} {sp : Sp} {k j : Nat} {p pos pos2 : Pos} {W : WX}
/-- raise C(e, ..) -/
theorem ps_raiseC (hc : X.calm = true) (tk : Takes X W) (T : ExcT X.K X.mg C) (F : FnU X.prog X.w X.K X.mg X.base k (ma X.K (ga X.K C) "__init__") sp) (hr : Rm j X.A) (ha : PA X (e :: es) ta) (hk : k + 1 ≤ j := by decide) (hg : Gl X C := by rfl)
    (hdb : (C == ("__debug__" : Str)) = false := by decide) (he : starEach (e :: es) X.env = (false, eval e X.env) :: starEach es X.env := by rfl) (hpl : (backTo pos (starEach es X.env)).any (·.1) = false := by rfl) :
    PS X (.Raise (some (.Call (.Name C p) (e :: es) [] pos)) none pos2) (fun _ σ H => tMkO (ga X.K C) sp [] ta σ H fun cls d H' => W cls d σ H') := by
  obtain ⟨⟨fd, ps, G, b⟩⟩ := F
  exact ps_raise hc tk (pmkG T.o T.i T.t G (hr.r.mono hk) b passL hg T.g ha hdb he hpl)
end
section
variable {K : Frag} {C : Addr} {f g : Str} {v w : V} {H : Hp} {Q : XK}
theorem exd_not {d : Addr} {fs : List (Str × V)} {o : HO} (h : o = exd d fs) : o = exd d fs := h
/-- what a made error with one field leaves: its dict, new -/
theorem mkX1 (q : ∀ d, H d = none → Q (.ref C) (some d) (upd H d (.xd [(f, v)]))) (a : Addr) (ha : H a = none) : spX1 C f [.ref a, v] (upd H a (exo a C none))
    (fun x H2 => x = .non ∧ ∃ (d : Addr) (fs : List (Str × V)), H2 a = some (exo a C (some d)) ∧ H2 d = some (exd d fs) ∧ H d = none ∧ Q (.ref C) (some d) (upd (del H2 a) d (.xd fs))) fun _ _ _ => False := by
  refine ⟨a, v, rfl, upd_same, fun dx hd ne => ⟨rfl, dx, [(f, v)], upd_same, by rw [upd_ne ne, upd_same], by rw [upd_ne ne] at hd; exact hd, ?_⟩⟩
  rw [upd_ne ne] at hd
  have e : upd (del (upd (upd (upd H a (exo a C none)) dx (exd dx [(f, v)])) a (exo a C (some dx))) a) dx (.xd [(f, v)]) = upd H dx (.xd [(f, v)]) := by
    funext b
    by_cases h1 : b = dx
    · rw [h1, upd_same, upd_same]
    · rw [upd_ne h1, upd_ne h1]
      by_cases h2 : b = a
      · rw [h2, del_same, ha]
      · rw [del_ne h2, upd_ne h2, upd_ne h1, upd_ne h2]
  rw [e]
  exact q dx hd
theorem mkX2 (q : ∀ d, H d = none → Q (.ref C) (some d) (upd H d (.xd [(g, w), (f, v)]))) (a : Addr) (ha : H a = none) : spX2 C f g [.ref a, v, w] (upd H a (exo a C none))
    (fun x H2 => x = .non ∧ ∃ (d : Addr) (fs : List (Str × V)), H2 a = some (exo a C (some d)) ∧ H2 d = some (exd d fs) ∧ H d = none ∧ Q (.ref C) (some d) (upd (del H2 a) d (.xd fs))) fun _ _ _ => False := by
  refine ⟨a, v, w, rfl, upd_same, fun dx hd ne => ⟨rfl, dx, [(g, w), (f, v)], by rw [upd_ne ne.symm, upd_same], upd_same, by rw [upd_ne ne] at hd; exact hd, ?_⟩⟩
  rw [upd_ne ne] at hd
  have e : upd (del (upd (upd (upd (upd H a (exo a C none)) dx (exd dx [(f, v)])) a (exo a C (some dx))) dx (exd dx [(g, w), (f, v)])) a) dx (.xd [(g, w), (f, v)]) = upd H dx (.xd [(g, w), (f, v)]) := by
    funext b
    by_cases h1 : b = dx
    · rw [h1, upd_same, upd_same]
    · rw [upd_ne h1, upd_ne h1]
      by_cases h2 : b = a
      · rw [h2, del_same, ha]
      · rw [del_ne h2, upd_ne h1, upd_ne h2, upd_ne h1, upd_ne h2]
  rw [e]
  exact q dx hd
end
end Ah

/-! try with several clauses 'except x as n' -/
namespace Ah
open PySem PySem.Spec PyProof.Rows L2 He
/-- a clause: its class, the slot of its name, the reading of its suite -/
structure Clause where
  c : Value
  i : Nat
  ts : Addr → Value → Option Addr → TS
/-- what a suite wishes behind itself: the clause's name is gone -/
def goneD (D : Ends) (i : Nat) : Ends := { nx := fun σ H => D.nx (σ.set i none) H, rt := D.rt, bk := fun σ H => D.bk (σ.set i none) H, ct := fun σ H => D.ct (σ.set i none) H }
/-- what the clauses wish of an exception of the body -/
def wCls (K : Frag) (Wout : WX) (D : Ends) : List Clause → WX
  | [] => Wout
  | k :: r => fun cls d σ H => ∃ b, PySem.W.exmOne K cls k.c = some b ∧ (b = true → ∀ a, H a = none → k.ts a cls d (goneD D k.i) (σ.set k.i (some (.ref a))) H) ∧ (b = false → wCls K Wout D r cls d σ H)
inductive HdA (X : Cx) : List ExceptHandler → List Clause → Prop
  | nil : HdA X [] []
  | cons {x n : Str} {k : Clause} {b₀ : Stmt} {suite : List Stmt} {np pos' : Pos} {hds : List ExceptHandler} {l : List Clause} (hc : Names X x k.c) (hi : X.N[k.i]? = some n) (hln : X.env.kindOf n = some .local)
      (hsu : ∀ (a : Addr) (oe : Obj) (cls : Value) (d : Option Addr) (pn : List (Addr × Obj)), Zc cls d oe → (∃ vs, oe.data = .fields vs) → PSs (X.suite a ((a, oe) :: pn)) (b₀ :: suite) (k.ts a cls d)) (r : HdA X hds l) :
      HdA X (.ExceptHandler (some (.Name x np)) (some n) (b₀ :: suite) pos' :: hds) (k :: l)
theorem takes_none {X : Cx} : Takes X (fun _ _ _ _ => False) := fun _ _ ⟨_, _, _, _, _, _, _, _, _, _, _, _, _, _, _, _, w⟩ => w.elim
section
variable {X : Cx} {body : List Stmt} {h₀ : ExceptHandler} {hds : List ExceptHandler} {l : List Clause} {pos : Pos} {tb : WX → TS} {Wout : WX}
theorem ps_tryA (hs : X.stack = X.env :: X.outer) (hf : X.env.frame = some X.env.locals) (hN : X.N.Nodup) (tk : Takes X Wout)
    (hb : ∀ (W : WX) (pn : List (Addr × Obj)) (xe : Value → Shared → Prop), Takes (X.tr pn xe) W → PassesOwn (model X.prog X.w) X.A X.env xe → PSs (X.tr pn xe) body (tb W))
    (hh : HdA X (h₀ :: hds) l) : PS X (.Try body (h₀ :: hds) [] [] pos) (fun D σ H => tb (fun cls d σ' H' => σ'.length = X.N.length → wCls X.K Wout D l cls d σ' H') D σ H) := by
  refine ⟨fun pins s σ H D I h => wpAny_Try_except ?_⟩
  have ok := I.ok
  have hfr : X.A.frames = some (X.env :: X.outer) := by rw [ok.frames, hs]
  refine wpAny_mono ((hb (fun cls d σ' H' => σ'.length = X.N.length → wCls X.K Wout D l cls d σ' H') (X.pn ++ pins) (fun e s₁ => wpAny (model X.prog X.w) X.A (noteFrame e X.env) (fun _ s₂ => wpAny (model X.prog X.w) X.A (setFlight e none) (fun _ s₃ =>
    wpAny (model X.prog X.w) X.A (handleBy e X.env (h₀ :: hds)) (SP X pins D) X.xe s₃) X.xe s₂) X.xe s₁) (fun u s' xx => ?_) PassesOwn.looking).run [] s σ H D (I.toTry _) h) (fun f s1 hsp => ?_) (fun e s1 he => he)
  · obtain ⟨a, B, sI, pins', σ', H', cls, d, rfl, J', nb, up, sky, na, os, ag, w⟩ := xx
    have J : L2.Inv X pins σ' H' sI := J'.ofTry ok
    replace w := w J.len
    refine Sky.land Zc.steady hfr hf (by rw [← hs]; exact sky) fun h3 fl3 up3 => ?_
    have J3 : L2.Inv X pins σ' H' { s' with heap := h3 } := J.landed nb fl3.1 (up.trans up3) os ag
    obtain ⟨oe3, vs3, he3, hz3, hd3⟩ := fl3.there
    have nfr : a ∉ frs (X.env :: X.outer) := fun hm => by
      obtain ⟨_, o', e', hnf⟩ := fl3.2.2.1.mem hm
      rw [he3] at e'
      cases e'
      exact hnf _ hd3
    have nL : a ≠ X.env.locals := fun z => nfr (List.mem_filterMap.mpr ⟨X.env, List.mem_cons_self, by rw [hf, z]⟩)
    have nF : a ∉ X.fs := fun hm => by
      obtain ⟨e, he, q⟩ := List.mem_filterMap.mp hm
      exact nfr (List.mem_filterMap.mpr ⟨e, List.mem_cons_of_mem _ he, q⟩)
    have S3 := J3.suite he3 hd3 na nL nF
    have LT : PySem.W.Looks (model X.prog X.w) h3 (typeOf (.ref a)) cls := fun A Q E s k q => wpAny_typeOf_ref (k _ _ he3) (by rw [hz3.1]; exact q)
    have go : ∀ {hs' : List ExceptHandler} {l' : List Clause}, HdA X hs' l' → wCls X.K Wout D l' cls d σ' H' → wpAny (model X.prog X.w) X.A (handleBy (.ref a) X.env hs') (SP X pins D) X.xe { s' with heap := h3 } := by
      intro hs' l' hk
      induction hk with
      | nil =>
        intro w
        refine wpAny_handleBy_nil ?_
        obtain ⟨k1, k2, k3, oe, vs, T, oT, ts', he, hz, hd, h1, hr⟩ := id fl3
        unfold PySem.passOn
        refine wpAny_bind (wpAny_field he hd h1 ?_)
        rw [if_neg (show ¬ ((Value.ref T == Value.none) = true) by simp)]
        have fin : wpAny (model X.prog X.w) X.A (setFlight (.ref a) X.env.frame) (fun _ s4 => wpAny (model X.prog X.w) X.A (throw (.ref a) : Sem Flow) (SP X pins D) X.xe s4) X.xe { s' with heap := h3 } := by
          rw [hf]
          refine HandSPX.setFlight_upZ fl3 fun h4 hh4 up4 => wpAny_throw (tk _ _ ⟨a, B, sI, pins, σ', H', cls, d, rfl, J, nb, (up.trans up3).trans up4, .inr (.inr ?_), na, os, ag, w⟩)
          rw [hs]
          exact hh4
        first
          | exact wpAny_bind (wpAny_pure (wpAny_bind fin))
          | exact wpAny_bind fin
      | @cons x n k b₀ suite np pos' hds2 l2 hc hi hln hsu r ih =>
        rintro ⟨b, hb1, hyes, hno⟩
        refine wpAny_handleBy_cons (codeAny_handlers_test ?_) (by intro q; cases q)
        have LM := PySem.W.exm_one (M := model X.prog X.w) (J3.kIn) LT hb1
        have test : ∀ {Q : Value → Shared → Prop} {E : Value → Shared → Prop}, Q k.c { s' with heap := h3 } → wpAny (model X.prog X.w) (X.A.mark (some (.ref a))) (eval (.Name x np) X.env) Q E { s' with heap := h3 } := by
          intro Q E q
          obtain ⟨hg, hdbg, hm | ⟨hm, hv, hnn⟩⟩ := hc
          · exact ld_glob (X := X.suite a ((a, oe3) :: (X.pn ++ pins))) S3 hg hm q hdbg
          · exact ld_blt (X := X.suite a ((a, oe3) :: (X.pn ++ pins))) S3 hg hm hv q hnn hdbg
        refine test (LM.here ?_)
        cases b with
        | true =>
          refine codeAny_handlers_suite_as (HandSPX.lands_againZ fl3 fun h4 fl4 up4 => ?_)
          have J4 : L2.Inv X pins σ' H' { s' with heap := h4 } := J.landed nb fl4.1 ((up.trans up3).trans up4) os ag
          obtain ⟨oe4, vs4, he4, hz4, hd4⟩ := fl4.there
          have S4 := J4.suite he4 hd4 na nL nF
          refine store_ok (X := X.suite a ((a, oe4) :: (X.pn ++ pins))) (v := .ref a) S4 hN hi (.inl hln) rfl (fun s5 S5 => ?_) (.inr hln)
          refine wpAny_mono ((hsu a oe4 cls d (X.pn ++ pins) hz4 ⟨_, hd4⟩).run [] s5 _ H' _ S5 (hyes rfl a na)) (fun f s6 hsp => ?_) (fun _ _ z => False.elim z)
          have end_ : ∀ {σ6 : L2.St} {H6 : Hp} {Q : Shared → Prop}, L2.Inv (X.suite a ((a, oe4) :: (X.pn ++ pins))) [] σ6 H6 s6 → (∀ s7, L2.Inv X pins (σ6.set k.i none) H6 s7 → Q s7) →
              wpAny (model X.prog X.w) X.A (do bindName X.env n .none; unbindBehindTheSuite X.env n pos') (fun _ s7 => Q s7) X.xe s6 := fun {σ6 H6 Q} S6 hq => gone_ok (S6.unsuite ok) hN hi hln hq
          match f, hsp with
          | .next, ⟨σ6, H6, S6, q6⟩ => exact end_ S6 fun s7 J7 => ⟨_, _, J7, q6⟩
          | .brk, ⟨σ6, H6, S6, q6⟩ => exact end_ S6 fun s7 J7 => ⟨_, _, J7, q6⟩
          | .cont, ⟨σ6, H6, S6, q6⟩ => exact end_ S6 fun s7 J7 => ⟨_, _, J7, q6⟩
          | .ret u, ⟨v6, σ6, H6, S6, r6, q6⟩ => exact end_ S6 fun s7 J7 => ⟨_, _, _, J7, r6, q6⟩
        | false =>
          show wpAny _ X.A (handleBy (.ref a) X.env hds2) _ _ _
          exact ih (hno rfl)
    exact go hh w
  · match f, hsp with
    | .next, ⟨σ', H', J', q⟩ => exact wpAny_execs_nil ⟨σ', H', J'.ofTry ok, q⟩
    | .brk, ⟨σ', H', J', q⟩ => exact ⟨σ', H', J'.ofTry ok, q⟩
    | .cont, ⟨σ', H', J', q⟩ => exact ⟨σ', H', J'.ofTry ok, q⟩
    | .ret u, ⟨v, σ', H', J', r, q⟩ => exact ⟨v, σ', H', J'.ofTry ok, r, q⟩
end
end Ah

/-! isinstance of a caught error that has a dict; repr of data -/
namespace Ah
open PySem PySem.Spec PySem.W PySem.Calls PyProof.Rows L2 He
section
variable {prog : Program} {w : World} {A : Around} {E : Value → Shared → Prop} {s : Shared} {K : Frag} {x D : Addr} {ox od : Obj}
theorem cls_of_exc {Q : Option Value → Shared → Prop} (C : ExcC K D) (X : K.In s.heap) (I : InstAt s.heap x ox D (some od)) (h : Q (some (.ref D)) { s with toks := s.toks + 1 }) : wpAny (model prog w) A (getAttr? (.ref x) "__class__") Q E s := by
  have hf : findObj K D (some od) "__class__" = some (.bind (.builtin "getset_descriptor.__get__") (.builtin "object.__class__")) := findObj_data (by obtain ⟨cd, hc, _⟩ := any_some C.hd; rw [hc]; rfl) C.ha C.hn C.ht
  obtain ⟨hp, g, d, t, os⟩ := s
  have L0 := I.type (M := model prog w)
  have L1 := looks_findIn (M := model prog w) X C.hg
  have L2 := looks_findIn (M := model prog w) X C.hk
  have L3 := looks_find (M := model prog w) X I hf
  have sub : Looks (model prog w) hp (isInstance (.ref x) (.type "BaseException")) true := L0.andThen (looks_subIn X C.hs)
  have own : (Value.builtin "BaseException.__getattribute__" == Value.builtin "object.__getattribute__") = false := by decide +kernel
  have own1 : (onTheHeap (Value.ref D) && Value.builtin "BaseException.__getattribute__" == Value.builtin "object.__getattribute__") = false := by rw [own]; rfl
  have own2 : (false && onTheHeap (Value.builtin "BaseException.__getattribute__")) = false := rfl
  unfold getAttr? getAttrBy? getAttrBy
  refine wpAny_bind (wpAny_mkText (wpAny_bind (wpAny_attempt (wpAny_holding (wpAny_bind (L0.at (wpAny_bind (L1.at ?_))))))))
  show wpAny _ _ (if (onTheHeap (Value.ref D) && Value.builtin "BaseException.__getattribute__" == Value.builtin "object.__getattribute__") = true then _ else _) _ _ _
  rw [own1, if_neg Bool.false_ne_true]
  unfold getAttrByItsOwn hookBefore
  refine wpAny_bind ?_
  rw [if_pos (show onTheHeap (Value.ref D) = true from rfl)]
  refine L2.at (wpAny_bind (wpAny_attempt (wpAny_holding ?_)))
  unfold callGetattribute
  rw [own2, if_neg Bool.false_ne_true]
  unfold boundAndCalled
  rw [PySem.F.excAttr_ValueError.ga.bind (.ref x)]
  refine wpAny_bind (wpAny_pure ?_)
  show wpAny _ _ (call (.builtin "BaseException.__getattribute__") [.ref x, .str "__class__" t]) _ _ _
  refine wpAny_call (codeAny_call_builtin PySem.F.excAttr_ValueError.ga.plain PySem.F.entry_bexc_ga ?_)
  refine @check_slot (model prog w) _ _ ⟨hp, g, d, t + 1, os⟩ "BaseException.__getattribute__" "BaseException" "__getattribute__" (.ref x) [.str "__class__" t] [] _ (by decide +kernel) (by decide +kernel) sub (PySem.F.args_bexc_ga (.ref x) (.str "__class__" t)) ?_
  unfold Builtin.«object.__getattribute__»
  refine wpAny_bind (wpAny_of_eq (a := ((Value.ref x : Value), [Value.str "__class__" t])) (by first | rfl | (simp only [slotArgs]; rfl)) ?_)
  refine wpAny_bind (wpAny_pure (wpAny_bind (L0.at (wpAny_bind (L3.at ?_)))))
  show wpAny _ _ (holding [Value.builtin "object.__class__"] (call (.builtin "getset_descriptor.__get__") [.builtin "object.__class__", .ref x, .ref D]) >>= ret) _ _ _
  refine wpAny_bind (wpAny_holding (wpAny_call (class_get (s := ⟨hp, g, d, t + 1, os⟩) (ox := ox) (od := some od) X I C.hm ?_)))
  refine wpAny_pure ?_
  show wpAny _ _ (handedOut (.ref D)) _ _ _
  rw [handedOut_of (v := .ref D) rfl]
  first
    | exact wpAny_pure (wpAny_pure h)
    | exact wpAny_pure h
    | exact wpAny_pure (wpAny_bind (wpAny_pure (wpAny_pure h)))
theorem kitx_excD (C : ExcC K D) : KitX K (.ref x) (.ref D) (fun h => InstAt h x ox D (some od)) where
  ty := fun _ _ _ I => I.type
  it := fun _ _ X _ => by
    obtain ⟨cdD, hcD, _⟩ := any_some C.hd
    unfold clsIn at hcD
    split at hcD
    · rename_i c' d' cd' sl' ho
      intro A' Q' E' s' k q
      unfold isType loadHead
      exact wpAny_bind (wpAny_loadPart (k _ _ (X _ _ ho)) (wpAny_pure q))
    · cases hcD
  ne := fun h tp dd its n sl X htp => by
    obtain ⟨cdD, hcD, _⟩ := any_some C.hd
    refine Bool.eq_false_iff.mpr fun q => ?_
    cases (Value.ref.inj (beq_iff_eq.mp q) : D = tp)
    unfold clsIn at hcD
    split at hcD
    · rename_i c' d' cd' sl' ho
      cases (X _ _ ho).symm.trans htp
    · cases hcD
  ca := fun X I k => cls_of_exc C X I k
end
/-- isinstance(e, c), e the exception with a dict that the suite holds -/
def rIsX (K : Frag) (a : Addr) (cls : Value) (d : Option Addr) : List V → Hp → VK → Prop := fun xs H Q => ∃ (D dd : Addr) (fs : List (Str × V)) (c : V) (cv : Value) (b : Bool), cls = .ref D ∧ d = some dd ∧ H dd = some (.xd fs) ∧ ExcC K D ∧ xs = [.ref a, c] ∧ ClsV c cv ∧ kitOne K (.ref D) cv = some b ∧ Q (.bl b) H
theorem call_isX {X : Cx} {a : Addr} {cls : Value} {d : Option Addr} {oe : Obj} {pn : List (Addr × Obj)} (hz : Zc cls d oe) (hf : ∃ vs, oe.data = .fields vs) : CallR (X.suite a ((a, oe) :: pn)) (.builtin "isinstance") (rIsX X.K a cls d) := by
  intro pins s σ H xs us Q I r h
  obtain ⟨D, dd, fs, c, cv, b, rfl, rfl, ed, C, rfl, hcv, e, q⟩ := h
  cases r with
  | cons rx rr =>
    cases rr with
    | cons rt rr =>
      cases rr
      cases rx
      have ec := hcv.eq rt
      subst ec
      obtain ⟨hget, _⟩ := I.pin (a, oe) (List.mem_append.mpr (.inl List.mem_cons_self))
      obtain ⟨vs, hv⟩ := hf
      have hx : ObjOk X.prog X.w H s.heap dd (.xd fs) := I.hok dd _ ed
      obtain ⟨mA, hns, hr⟩ := hx
      obtain ⟨od, ho, hl⟩ := lookIn_ns hns
      have J : InstAt s.heap a oe D (some od) := ⟨hget, hz.1, by unfold notCls; rw [hv] <;> rfl, by rw [hz.2]; exact ho⟩
      exact kia_one (kitx_excD C) I.kIn J e (fun z => nomatch z) fun tk => ⟨.bl b, H, I.kept (t' := tk) fun _ _ z => z, rfl, q⟩
def excCB (C : Str) (K : Frag) : Bool :=
  eqO (findIn K (.ref (ga K C)) "__getattribute__") (some (some (.builtin "BaseException.__getattribute__"))) && (eqO (findIn K (.ref (ga K C)) "__getattr__") (some none) && (decide (subIn K (.ref (ga K C)) (.type "BaseException") = some true) &&
  (hasDictIn K (ga K C) && (eqO (findIn K (.ref (ga K C)) "__class__") (some (some (.builtin "object.__class__"))) && (eqO (specialIn K (.builtin "object.__class__") "__get__") (some (some (.builtin "getset_descriptor.__get__"))) &&
  (decide (takesIn K (.builtin "object.__class__") = some true) && decide (mroIn K (ga K C) (.type "object") = some true)))))))
theorem excC_ok {C : Str} {K : Frag} (h : excCB C K = true) : ExcC K (ga K C) := by
  unfold excCB at h
  obtain ⟨h1, h⟩ := ba h
  obtain ⟨h2, h⟩ := ba h
  obtain ⟨h3, h⟩ := ba h
  obtain ⟨h4, h⟩ := ba h
  obtain ⟨h5, h⟩ := ba h
  obtain ⟨h6, h⟩ := ba h
  obtain ⟨h7, h8⟩ := ba h
  exact ⟨eqO_ok h1, eqO_ok h2, of_decide_eq_true h3, h4, eqO_ok h5, eqO_ok h6, of_decide_eq_true h7, of_decide_eq_true h8⟩
/-- repr(x) of data -/
def rReprD (K : Frag) : List V → Hp → VK → Prop := fun xs H Q => ∃ (x : V) (d : PyData), xs = [x] ∧ Dp K H x d ∧ d.showable = true ∧ d.hasDict = false ∧ d.depth ≤ 64 ∧ d.shown.length ≤ sizeLine ∧ Q (.str d.shown) H
theorem call_reprD {X : Cx} (hg : X.A.guards = some []) (hu : X.A.units + 99 < cLine) : CallR X (.builtin "repr") (rReprD X.K) := by
  intro pins s σ H xs us Q I r h
  obtain ⟨x, d, rfl, hx, h1, h2, h3, h4, q⟩ := h
  obtain ⟨u, rfl, ru⟩ := r.one
  obtain ⟨as, rd⟩ := Dp.reads I d x u hx ru
  have fin : ∀ h' t tk, (∀ b o, s.heap.get? b = some o → h'.get? b = some o) → EP X pins σ Q (.str d.shown t) { s with heap := h', toks := tk } := fun h' t tk hk => ⟨.str d.shown, H, I.kept (t' := tk) hk, ⟨t, rfl⟩, q⟩
  have now : ∀ t tk, EP X pins σ Q (.str d.shown t) { s with toks := tk } := fun t tk => fin s.heap t tk fun _ _ z => z
  cases hx with
  | non => cases (show u = Value.none from ru); exact PySem.P.repr_of_none (now _ _)
  | bl b => cases (show u = Value.bool b from ru); exact PySem.P.repr_of_bool (now _ _)
  | int i =>
    obtain ⟨t, e⟩ := (show ∃ t, u = Value.int i t from ru)
    subst e
    exact PySem.P.repr_of_int (of_decide_eq_true h1) (now _ _)
  | str z =>
    obtain ⟨t, e⟩ := (show ∃ t, u = Value.str z t from ru)
    subst e
    exact PySem.P.repr_of_str (now _ _) h4
  | lst a b =>
    rename_i ad xs ds
    cases (show u = Value.ref ad from ru)
    exact repr_of_reads' rd h1 (fun z => by rw [h2] at z; cases z) hg (by omega) (fun _ _ z => z) fin h4
  | tup a b =>
    rename_i ad xs ds
    cases (show u = Value.ref ad from ru)
    exact repr_of_reads' rd h1 (fun z => by rw [h2] at z; cases z) hg (by omega) (fun _ _ z => z) fin h4
theorem call_reprX {X : Cx} {a : Addr} {cls : Value} {d : Option Addr} {oe : Obj} {pn : List (Addr × Obj)} (hz : Zc cls d oe) (hg : (X.suite a ((a, oe) :: pn)).A.guards = some []) (hu : (X.suite a ((a, oe) :: pn)).A.units + 99 < cLine) : CallR (X.suite a ((a, oe) :: pn)) (.builtin "repr") (rReprD X.K) :=
  call_reprD hg hu
end Ah

/-! the claim's call with tables of code objects; lambdas handed to a def -/
namespace Ah
open PySem PySem.Spec PyProof.Rows L2 He LamX
/-- the tables of the defs that make lambdas, below the running heap -/
abbrev Tbs (base : Heap) (mg : Str → Option Value) (cs : List (Addr × Addr)) : Prop := ∀ p ∈ cs, TabB base mg p.1 p.2
def LawOkT (P : Program) (w : World) (K : Frag) (mg : Str → Option Value) (cs : List (Addr × Addr)) (k : Nat) (fa : Addr) (sp : Sp) : Prop :=
  ∀ (base : Heap), Tbs base mg cs → ∀ (A : Around) (outer : List Env) (s : Shared) (H : Hp) (u : Value) (v : V) (Q : VK) (E : XK), Rm k A → Env0 P w K mg base A outer s H → RelV v u → sp [v] H Q E →
    codeAny (model P w) A (.call (.ref fa) ⟨[u], []⟩) (CR L2.CX0 outer P w H s Q E) s
theorem okLawT {P : Program} {w : World} {K : Frag} {mg : Str → Option Value} {cs : List (Addr × Addr)} {N : List Str} {x : Str} {k : Nat} {sp : Sp} {d : DefG} (S : Stands K d) (h0 : d.dfl = []) (sc : FnScope N [x] d.scope)
    (hb : ∀ (kV doc pm : Value) (an : Option Addr) (cdv ct : Value) (us : List Value), us.length = 1 → bindArgs (PySem.W.fnOf d.name d.qual d.params d.body d.scope .none kV doc pm an cdv ct) ⟨us, []⟩ = pure ([x].zip us))
    (hbody : ∀ base : Heap, Tbs base mg cs → BodyB L2.CX0 P w K mg base N d k sp) : LawOkT P w K mg cs (k + 1) (d.ad K) sp := by
  obtain ⟨fd, F⟩ := S
  have e : d.dvs K = [] := by unfold DefG.dvs; rw [h0]; rfl
  rw [e] at F
  have b := FunD.bindsA (ps := [x]) F hb
  exact fun base tb A outer s H u v Q E hr e0 r hsp => body_run F sc (hbody base tb) hr e0 (b s [u] rfl) rfl (.cons r .nil) hsp
section
variable {P : Program} {w : World} {K : Frag} {mg mb : Str → Option Value} {k : Nat} {fa a : Addr} {cs : List (Addr × Addr)} {sp : Sp} {s : Shared} {vs : List Value} {ns : List Int} {H : Hp}
/-- what the claim's call finds -/
structure Found (K : Frag) (mg mb : Str → Option Value) (cs : List (Addr × Addr)) (a : Addr) (vs : List Value) (s : Shared) : Prop where
  KX : K.In s.heap
  ns : s.heap.Ns mainGlobals mg
  bn : s.heap.Ns builtinsNs mb
  bb : ∀ x : Str, x ≠ "__name__" → mb x = bootBuiltins x
  lim : s.heap.NoLimit
  gen : s.gens = #[]
  tab : ∀ p ∈ cs, s.heap.get? p.2 = some { cls := .none, data := .fields #[] }
  out : ∀ p ∈ cs, K.lookup p.2 = none
  hd : ∀ p ∈ cs, PySem.W.CodeHd s.heap p.1 p.2
  bm : ∃ (bm : Addr) (ob : Obj), mg "__builtins__" = some (.ref bm) ∧ bm ≠ builtinsNs ∧ s.heap.get? bm = some ob ∧ ob.cls = .type "module" ∧ ob.dict = some builtinsNs ∧ ob.data = .plain
  at_ : s.heap.get? a = some { cls := .type "list", data := .seq vs.toArray }
/-- only the script and the tables are tracked -/
structure Track (P : Program) (w : World) (K : Frag) (cs : List (Addr × Addr)) (a : Addr) (s : Shared) (H : Hp) : Prop where
  tb : ∀ p ∈ cs, H p.2 = some (.tbl #[])
  only : ∀ b, H b = none ∨ b ∈ cs.map (·.2) ∨ (b = a ∧ K.lookup a = none ∧ ∃ o xs, H b = some (.frz o (.lst xs)))
  ok : HOk P w H s.heap
theorem Found.isT (F : Found K mg mb cs a vs s) {b : Addr} (hb : b ∈ cs.map (·.2)) : s.heap.get? b = some { cls := .none, data := .fields #[] } := by
  obtain ⟨p, hp, e⟩ := List.mem_map.mp hb
  subst e
  exact F.tab p hp
/-- an object of another make is not tracked -/
theorem Found.off (F : Found K mg mb cs a vs s) (T : Track P w K cs a s H) {b : Addr} {o : Obj} (e : s.heap.get? b = some o) (h1 : ∀ l n, o.data ≠ .seq l n) (h2 : o.data ≠ .fields #[]) : H b = none := by
  rcases T.only b with z | z | ⟨z, _⟩
  · exact z
  · rw [F.isT z] at e
    cases e
    exact absurd rfl h2
  · subst z
    rw [F.at_] at e
    cases e
    exact absurd rfl (h1 _ _)
theorem Found.low (F : Found K mg mb cs a vs s) (T : Track P w K cs a s H) {b : Addr} {o : Obj} (e : s.heap.get? b = some o) (h1 : ∀ l n, o.data ≠ .seq l n) (h2 : o.data ≠ .fields #[]) : (hidT s.heap H).get? b = some o := hidT_get e (F.off T e h1 h2)
theorem Found.lowNs (F : Found K mg mb cs a vs s) (T : Track P w K cs a s H) {b : Addr} {m : Str → Option Value} (h : s.heap.Ns b m) : (hidT s.heap H).Ns b m := by
  obtain ⟨o, es, ep, e, d, r⟩ := h
  exact ⟨o, es, ep, F.low T e (fun l n z => by rw [d] at z; cases z) (fun z => by rw [d] at z; cases z), d, r⟩
theorem Found.env (F : Found K mg mb cs a vs s) (T : Track P w K cs a s H) : Env0 P w K mg (hidT s.heap H) callerA [] s H := by
  obtain ⟨mc, l1, l2⟩ := F.lim
  refine ⟨rfl, ⟨fun b o e => hidT_get (F.KX b o e) ?_, F.lowNs T F.ns, ⟨mb, F.lowNs T F.bn, F.bb⟩, ⟨mc, F.lowNs T l1, l2⟩⟩, fun b o e => of_hidT e, Nat.le_of_eq (hidT_size _ _), trivial, fun b hb => absurd (show b ∈ ([] : List Addr) from hb) List.not_mem_nil, T.ok, .of_eq F.gen⟩
  rcases T.only b with z | z | ⟨z, k, _⟩
  · exact z
  · obtain ⟨p, hp, ep⟩ := List.mem_map.mp z
    subst ep
    rw [F.out p hp] at e
    cases e
  · subst z
    rw [k] at e
    cases e
theorem Found.tabs (F : Found K mg mb cs a vs s) (T : Track P w K cs a s H) : Tbs (hidT s.heap H) mg cs := fun p hp => by
  have hTp := F.tab p hp
  refine ⟨?_, ?_, fun z => ?_⟩
  · obtain ⟨o, us, file, tf, flags, tg, inF, text, tt, e1, r1, r2, r3, r4, r5, r6, r7, r8, hne⟩ := F.hd p hp
    refine ⟨o, us, file, tf, flags, tg, inF, text, tt, F.low T e1 (fun l n z => ?_) (fun z => ?_), r1, r2, r3, r4, r5, r6, r7, r8, hne⟩
    · rw [r2] at z
      cases z
    · rw [r2] at z
      cases z
      simp at r3
  · obtain ⟨bm, ob, b1, b2, b3, b4, b5, b6⟩ := F.bm
    refine ⟨bm, ob, b1, b2, fun q => ?_, fun q => ?_, F.low T b3 (fun l n z => by rw [b6] at z; cases z) (fun z => by rw [b6] at z; cases z), b4, b5, b6⟩
    · obtain ⟨o, es, ep, e, hd, _⟩ := F.ns
      subst q
      rw [e] at b3
      cases b3
      rw [hd] at b6
      cases b6
    · subst q
      rw [hTp] at b3
      cases b3
      cases b6
  · obtain ⟨o, es, ep, e, hd, _⟩ := F.ns
    rw [z, hTp] at e
    cases e
    cases hd
theorem Found.run (F : Found K mg mb cs a vs s) (T : Track P w K cs a s H) (hr : Room k callerA) (L : LawOkT P w K mg cs k fa sp) (hsp : sp [.ref a] H (fun v _ => v = .bl true) fun _ _ _ => False) :
    codeAny (model P w) callerA (.call (.ref fa) ⟨[.ref a], []⟩) (fun r s' => r = .ok (.ret (.bool true)) ∧ OldK s.heap s'.heap ∧ s'.os = s.os ∧ AllBare s'.gens) s := by
  refine codeAny_mono (L _ (F.tabs T) callerA [] s H (.ref a) (.ref a) _ _ ⟨hr, rfl⟩ (F.env T) rfl hsp) fun r s' h => ?_
  match r, h with
  | .ok (.ret u), ⟨v, H', os, bare, un, hok', r', q⟩ =>
    cases (show v = .bl true from q)
    cases (show u = Value.bool true from r')
    have key : ∀ b o, b ∉ cs.map (·.2) → s.heap.get? b = some o → s'.heap.get? b = some o := fun b o nb e => by
      rcases T.only b with z | z | ⟨_, _, ob, xs, z⟩
      · exact un.keep b o e z (fun y => absurd (show b ∈ ([] : List Addr) from y) List.not_mem_nil) List.not_mem_nil
      · exact absurd z nb
      · have e1 := (T.ok b _ z).1
        rw [e] at e1
        cases e1
        exact (hok' b _ (un.frzs b _ _ z)).1
    have grown : ∀ p ∈ cs, ∃ more : Array Value, s'.heap.get? p.2 = some { cls := .none, data := .fields more } := fun p hp => by
      obtain ⟨more, z⟩ := un.tbls p.2 #[] (T.tb p hp)
      exact ⟨_, hok' p.2 _ z⟩
    refine ⟨rfl, ⟨fun b o e => ?_, fun b o e => ?_⟩, os, bare⟩
    · by_cases hb : b ∈ cs.map (·.2)
      · obtain ⟨p, hp, ep⟩ := List.mem_map.mp hb
        subst ep
        obtain ⟨more, hm⟩ := grown p hp
        rw [F.tab p hp] at e
        cases e
        exact .inr (.inl ⟨((F.hd p hp).tab (F.tab p hp)).isCodeTable, rfl, #[], more, rfl, by rw [Array.empty_append]; exact hm⟩)
      · exact .inl (key b o hb e)
    · by_cases hb : b ∈ cs.map (·.2)
      · obtain ⟨p, hp, ep⟩ := List.mem_map.mp hb
        subst ep
        obtain ⟨more, hm⟩ := grown p hp
        exact ⟨_, hm⟩
      · exact ⟨o, key b o hb e⟩
theorem Found.call (F : Found K mg mb cs a vs s) (hi : IntsAre vs ns) (hl : ns.length ≤ sizeLine) (hr : Room k callerA) (L : LawOkT P w K mg cs k fa sp)
    (hsp : ∀ H : Hp, (∀ p ∈ cs, H p.2 = some (.tbl #[])) → SqL K H a (ns.map V.int) → sp [.ref a] H (fun v _ => v = .bl true) fun _ _ _ => False) :
    codeAny (model P w) callerA (.call (.ref fa) ⟨[.ref a], []⟩) (fun r s' => r = .ok (.ret (.bool true)) ∧ OldK s.heap s'.heap ∧ s'.os = s.os ∧ AllBare s'.gens) s := by
  have rv := vals_ints hi
  have lenV := hi.length
  have aT : a ∉ cs.map (·.2) := fun z => by
    have q := F.isT z
    rw [F.at_] at q
    have z' : Data.seq vs.toArray _ = Data.fields #[] := congrArg Obj.data (Option.some.inj q)
    cases z'
  have mem : ∀ p ∈ cs, p.2 ∈ cs.map (·.2) := fun p hp => List.mem_map.mpr ⟨p, hp, rfl⟩
  cases hk : K.lookup a with
  | some o =>
    have e := F.KX a o hk
    rw [F.at_] at e
    cases e
    let H : Hp := fun b => if b ∈ cs.map (·.2) then some (.tbl #[]) else none
    have T : Track P w K cs a s H := ⟨fun p hp => if_pos (mem p hp), fun b => by
        by_cases hb : b ∈ cs.map (·.2)
        · exact .inr (.inl hb)
        · exact .inl (if_neg hb), fun b u z => by
        by_cases hb : b ∈ cs.map (·.2)
        · cases ((if_pos hb).symm.trans z : some (HO.tbl #[]) = some u)
          exact F.isT hb
        · cases ((if_neg hb).symm.trans z : none = some u)⟩
    exact F.run T hr L (hsp H T.tb (.inr ⟨_, vs.toArray, _, hk, rfl, rfl, rfl, by rw [List.size_toArray, lenV]; exact hl, by simpa using rv⟩))
  | none =>
    let H : Hp := fun b => if b = a then some (.frz { cls := .type "list", data := .seq vs.toArray } (.lst (ns.map V.int))) else if b ∈ cs.map (·.2) then some (.tbl #[]) else none
    have at_ : H a = some (.frz { cls := .type "list", data := .seq vs.toArray } (.lst (ns.map V.int))) := if_pos rfl
    have tb : ∀ b, b ∈ cs.map (·.2) → H b = some (.tbl #[]) := fun b hb => (if_neg (show ¬ b = a from fun z => aT (z ▸ hb))).trans (if_pos hb)
    have off : ∀ b, b ≠ a → b ∉ cs.map (·.2) → H b = none := fun b h1 h2 => (if_neg h1).trans (if_neg h2)
    have T : Track P w K cs a s H := ⟨fun p hp => tb _ (mem p hp), fun b => by
        by_cases hb : b = a
        · subst hb
          exact .inr (.inr ⟨rfl, hk, _, _, at_⟩)
        · by_cases h2 : b ∈ cs.map (·.2)
          · exact .inr (.inl h2)
          · exact .inl (off b hb h2), fun b u z => by
        by_cases hb : b = a
        · subst hb
          rw [at_] at z
          cases z
          exact ⟨F.at_, by rw [List.length_map]; exact hl, vs, _, rv, F.at_⟩
        · by_cases h2 : b ∈ cs.map (·.2)
          · rw [tb b h2] at z
            cases z
            exact F.isT h2
          · rw [off b hb h2] at z
            cases z⟩
    exact F.run T hr L (hsp H T.tb (.inl (.inr ⟨_, at_⟩)))
end
/-- a law's end, with tables -/
theorem law_walkT {l : PySem.W.OpenLaw} {n k : Nat} {q : Program} {loose : List Str} {XP : (Str → Option Value) → Heap → Prop} {YP : World → Heap → Prop} {d : DefRec}
    (hn : l.most = some n) (hn2 : n ≤ sizeLine) (hdf : d.params.defaults = []) (hr : Room k callerA)
    (F : ∀ (w : World) (mg : Str → Option Value) (fa : Addr) (h : Heap), YP w h → h.Ns mainGlobals mg → mg d.name = some (.ref fa) →
      ∃ (K : Frag) (cs : List (Addr × Addr)) (sp : Sp), K.In h ∧ (∀ p ∈ cs, h.get? p.2 = some { cls := .none, data := .fields #[] }) ∧ (∀ p ∈ cs, K.lookup p.2 = none) ∧ (∀ p ∈ cs, PySem.W.CodeHd h p.1 p.2) ∧
        (∀ (H : Hp) (a : Addr) (ns : List Int), ns.length ≤ n → (∀ z ∈ ns, Builtin.Int.intBits z ≤ 1048576) → (∀ p ∈ cs, H p.2 = some (.tbl #[])) → SqL K H a (ns.map V.int) → sp [.ref a] H (fun v _ => v = .bl true) fun _ _ _ => False) ∧ LawOkT l.prog w K mg cs k fa sp) :
    PySem.W.WalkO q loose XP YP l.row.toRowW d [] (fun f vs => PySem.call f vs) := by
  refine Att.attach_callB hn hdf fun w s₀ s₁ mg mb fa o pm cd doc a vs ns G Y ho hd hcd hmg hobj hints hlen hbits hg => ?_
  obtain ⟨K, cs, sp, KX, h1, h2, h3, hsp, hF⟩ := F w mg fa _ Y G.T.g hmg
  exact Found.call ⟨KX, G.T.g, G.T.b, G.T.builtins, G.T.nolimit, hg, h1, h2, h3, G.T.bmain, hobj⟩ hints (Nat.le_trans hlen hn2) hr hF fun H hH hS => hsp H a ns hlen hbits hH hS
end Ah

/-! x(lambda: body), x a def of the text that calls what it got -/
namespace Ah
open PySem PySem.Spec PyProof.Rows L2 He LamX
theorem body_runS {P : Program} {w : World} {K : Frag} {mg : Str → Option Value} {base : Heap} {CX : CXT} {N ps : List Str} {k : Nat} {d : DefG} {fd : FuncData} {dvs : List V} {kws : List (Str × V)} (F : FunD K d.name d.qual d.params d.body d.scope dvs kws (d.ad K) fd) (S : FnScope N ps d.scope)
    {A : Around} {outer : List Env} {s : Shared} {H : Hp} {args : Args} {us : List Value} {vs : List V} {Q : VK} {E : XK} (hr : Rm (k + 1) A) (e0 : Env0 P w K mg base A outer s H) (hb : BindsTo s fd args (ps.zip us)) (hl : vs.length = ps.length) (r : Vals vs us)
    (hbody : Rm k (A.deeper (envOfC d.qual d.scope s.heap.objs.size (d.ad K) (CodeV K (d.ad K)))) →
      ∃ t, PSs (cxOf CX P w K mg base N d.qual d.scope (d.ad K) (CodeV K (d.ad K)) A outer s H E) d.body t ∧ t { nx := fun _ H' => Q .non H', rt := Q } (L2.start N vs) H) :
    codeAny (model P w) A (.call (.ref (d.ad K)) args) (CR CX outer P w H s Q E) s := by
  obtain ⟨oc, od, dV, kV, doc, pm, an, cdv, ct, osl, rfl, lk, hcd, _, _⟩ := F.ex
  have ec : CodeV K (d.ad K) = cdv := by
    unfold CodeV
    rw [lk]
  subst ec
  exact run_ofS lk hcd S hr.r e0 hb r hl fun _ => hbody ⟨hr.r.deeper _, hr.g⟩
section
variable {X : Cx} {pins : List (Addr × Obj)} {σ : L2.St} {H HZ : Hp} {s s1 : Shared}
/-- the call of the lambda, in the def that got it: Z is that def's context, entered at s -/
theorem pe_actG {Ng : List Str} {dg : DefG} {f c' : Addr} {cdg pm ctv : Value} {params : Arguments} {body : Expr} {scope : Scope} {k i : Nat} {a : Str} {pn : List (Addr × Obj)} {xe : Value → Shared → Prop} {W : WX} {E : XK} {tb : TE} {p1 p2 : Pos}
    (I : L2.Inv X pins σ H s) (L : LamS X.env.scope scope) (hf : s.heap.get? f = some (PySem.W.kla_obj "<lambda>" (X.env.qual ++ "<lambda>") params body scope (cloFrom X.env.cells scope.names []) pm c' ctv)) (hfn : H f = none) (hfr : f ∉ frs X.stack)
    (hbind : bindArgs (PySem.W.kla_fn "<lambda>" (X.env.qual ++ "<lambda>") params body scope (cloFrom X.env.cells scope.names []) pm (.ref c') ctv) ⟨[], []⟩ = pure [])
    (tk : Takes ((cxOf L2.CX0 X.prog X.w X.K X.mg X.base Ng dg.qual dg.scope (dg.ad X.K) cdg X.A X.stack s H L2.E0).tr pn xe) W) (hW : ∀ cls d σ' H', E cls d H' → W cls d σ' H') (hr : Rm (k + 1) (X.A.deeper (envOfC dg.qual dg.scope s.heap.objs.size (dg.ad X.K) cdg)))
    (hbody : ∀ (A : Around) (outer : List Env) (s : Shared) (H : Hp), Rm k (A.deeper (lamEnv X scope s.heap.objs.size f c')) → PE (lamCx X A outer s H E scope f c') body tb)
    (hN : Ng[i]? = some a) (hv : Vis dg.scope a) (hd : (a == ("__debug__" : Str)) = false := by decide) (hcd : (a == ("__classdict__" : Str)) = false := by decide) :
    PE ((cxOf L2.CX0 X.prog X.w X.K X.mg X.base Ng dg.qual dg.scope (dg.ad X.K) cdg X.A X.stack s H L2.E0).tr pn xe) (.Call (.Name a p1) [] [] p2)
      (fun σZ HZ Q => σZ[i]? = some (some (.ref f)) ∧ HZ c' = some (CodeO c' (X.env.qual ++ "<lambda>")) ∧ tb σ HZ Q) := by
  refine ⟨fun pinsZ sZ σZ HZ Q IZ h => ?_⟩
  obtain ⟨hs, hc, ht⟩ := h
  refine wpAny_Call_Name_kw (thn ((pe_var (pos := p1) (i := i) hN hv hd hcd).run pinsZ sZ σZ HZ (fun v H1 => v = .ref f ∧ H1 = HZ) IZ ⟨.ref f, hs, rfl, rfl⟩) fun u s1 ⟨v, H1, I1, r1, ev, eH⟩ => ?_)
  subst ev
  rw [eH] at I1
  cases (show u = Value.ref f from r1)
  have of1 : s1.heap.get? f = some (PySem.W.kla_obj "<lambda>" (X.env.qual ++ "<lambda>") params body scope (cloFrom X.env.cells scope.names []) pm c' ctv) := I1.base.keep f _ hf hfn hfr (fun z => nomatch (show f ∈ ([] : List Addr) from z))
  refine PySem.W.callWith_F0 ⟨_, _, _, _, of1⟩ ?_
  obtain ⟨⟨oc, vs, t, hoc, hdc, hvc⟩, _, _⟩ := I1.hok c' _ hc
  have rc : codeAny (model X.prog X.w) (X.A.deeper (envOfC dg.qual dg.scope s.heap.objs.size (dg.ad X.K) cdg)) (.call (.ref f) ⟨[], []⟩) (CR (L2.CX X.prog X.w) (envOfC dg.qual dg.scope s.heap.objs.size (dg.ad X.K) cdg :: X.stack) X.prog X.w HZ s1 Q E) s1 := by
    refine PySem.W.kla_callFunE hr.r.depth of1 rfl L.co L.gen rfl ⟨c', oc, vs, t, rfl, hoc, hdc, hvc⟩ ?_
    rw [hbind]
    refine wpAny_pure (wpAny_newFunctionEnv (fun y hy => (L.own y hy).2) (fun y hy => absurd hy (by simp)) (fun h₁ hns hsb => ⟨I1.nolimit.fresh _ hsb, ?_⟩) L.kind)
    have kp : ∀ b o, s1.heap.get? b = some o → h₁.get? b = some o := fun b o e => hsb.extBut b o (Nat.ne_of_lt (Heap.lt_size e)) (Heap.get?_push_of_some _ e)
    have J := lam_start2 (E := E) (f := f) (c' := c') (tk := s1.toks + ([] : List (Str × Value)).length) I L I1.env0 hr.r.hd I1.base hns kp
    have hr2 : Rm k ((X.A.deeper (envOfC dg.qual dg.scope s.heap.objs.size (dg.ad X.K) cdg)).deeper (lamEnv X scope s1.heap.objs.size f c')) := ⟨hr.r.deeper _, hr.g⟩
    refine PySem.W.kla_codeExpr (wpAny_mono ((hbody _ _ s1 HZ hr2).run [] _ _ HZ Q J ht) (fun v s' hq => ?_) fun e s' hq => hq)
    obtain ⟨w', H', J', rv, q⟩ := hq
    exact ⟨w', H', J'.os, J'.bare, J'.base, J'.hok, rv, q⟩
  have hx : Passes (L2.CX X.prog X.w) ((cxOf L2.CX0 X.prog X.w X.K X.mg X.base Ng dg.qual dg.scope (dg.ad X.K) cdg X.A X.stack s H L2.E0).tr pn xe) E := passes_call tk hW
  refine wpAny_call (codeAny_mono rc fun r s' hq => ?_)
  match r, hq with
  | .error e, hq => exact hx pinsZ σZ HZ s1 e s' I1 hq
  | .ok (.ret u), hq => exact I1.after hq
end
/-- the def dg that calls what it got, by the name a: TT, what it makes of the lambda's reading -/
def GivesG (X : Cx) (dg : DefG) (Ng : List Str) (k : Nat) (a : Str) (q : Str) (TT : (XK → Hp → VK → Prop) → Hp → VK → Prop) : Prop :=
  ∀ (cdg : Value) (f c' : Addr) (s : Shared) (H : Hp) (Q : VK) (tl : XK → Hp → VK → Prop), Rm k (X.A.deeper (envOfC dg.qual dg.scope s.heap.objs.size (dg.ad X.K) cdg)) →
    (∀ (W : WX) (pn : List (Addr × Obj)) (xe : Value → Shared → Prop) (E : XK) (p1 p2 : Pos), Takes ((cxOf L2.CX0 X.prog X.w X.K X.mg X.base Ng dg.qual dg.scope (dg.ad X.K) cdg X.A X.stack s H L2.E0).tr pn xe) W → (∀ cls d σ' H', E cls d H' → W cls d σ' H') →
      PE ((cxOf L2.CX0 X.prog X.w X.K X.mg X.base Ng dg.qual dg.scope (dg.ad X.K) cdg X.A X.stack s H L2.E0).tr pn xe) (.Call (.Name a p1) [] [] p2) (fun σZ HZ Q => σZ[0]? = some (some (.ref f)) ∧ HZ c' = some (CodeO c' q) ∧ tl E HZ Q)) →
    H c' = some (CodeO c' q) → TT tl H Q →
    ∃ t, PSs (cxOf L2.CX0 X.prog X.w X.K X.mg X.base Ng dg.qual dg.scope (dg.ad X.K) cdg X.A X.stack s H L2.E0).nox dg.body t ∧ t { nx := fun _ H' => Q .non H', rt := Q } (L2.start Ng [.ref f]) H
section
variable {X : Cx}
/-- x(lambda: body) -/
theorem pe_lamG {T : List (Addr × Str)} {TT : (XK → Hp → VK → Prop) → Hp → VK → Prop} {x a : Str} {dg : DefG} {c P : Addr} {k j : Nat} {Ng : List Str} {params : Arguments} {body : Expr} {scope : Scope} {t : XK → TE} {p lpos pos : Pos}
    (S : Stands X.K dg) (h0 : dg.dfl = []) (hm : X.mg x = some (.ref (dg.ad X.K))) (Sg : FnScope Ng [a] dg.scope)
    (hb : ∀ (kV doc pm : Value) (an : Option Addr) (cdv ct : Value) (us : List Value), us.length = 1 → bindArgs (PySem.W.fnOf dg.name dg.qual dg.params dg.body dg.scope .none kV doc pm an cdv ct) ⟨us, []⟩ = pure ([a].zip us))
    (hNg : Ng[0]? = some a) (hva : Vis dg.scope a) (hG : GivesG X dg Ng (k + 1) a (X.env.qual ++ "<lambda>") TT)
    (TB : TabB X.base X.mg c P) (hcode : X.env.code = .ref c) (hmT : (P, X.env.qual ++ "<lambda>") ∈ T) (hu : ∀ p ∈ T, p.1 = P → p.2 = X.env.qual ++ "<lambda>") (hr : Rm j X.A) (L : LamS X.env.scope scope)
    (hbody : ∀ (A : Around) (outer : List Env) (s : Shared) (H : Hp) (E : XK) (f c' : Addr), Rm k (A.deeper (lamEnv X scope s.heap.objs.size f c')) → PE (lamCx X A outer s H E scope f c') body (t E))
    (hk : k + 2 ≤ j := by decide) (hg : Gl X x := by rfl) (hdef : defaultsOf params X.env = ([], []) := by rfl)
    (hbind : ∀ (q : Str) (cl : List (Str × Addr)) (pm cv ctv : Value), bindArgs (PySem.W.kla_fn "<lambda>" q params body scope cl pm cv ctv) ⟨[], []⟩ = pure [] := by intro _ _ _ _ _; rfl)
    (hdb : (x == ("__debug__" : Str)) = false := by decide) (hd : (a == ("__debug__" : Str)) = false := by decide) (hcd : (a == ("__classdict__" : Str)) = false := by decide) :
    PE X (.Call (.Name x p) [.Lambda params body scope lpos] [] pos) (tLam T TT t) := by
  obtain ⟨fd, F⟩ := S
  have e : dg.dvs X.K = [] := by unfold DefG.dvs; rw [h0]; rfl
  rw [e] at F
  refine ⟨fun pins s σ H Q I h => ?_⟩
  obtain ⟨hT, h⟩ := h
  refine wpAny_Call_Name_kw (ld_glob I hg hm ?_ hdb)
  refine PySem.W.callWith_K (h₀ := X.base) I.ok.mod.kin F.kp ?_ (by rfl) (by rfl)
  show wpAny _ _ (spliced ((false, eval (.Lambda params body scope lpos) X.env) :: backTo pos (starEach [] X.env))) _ _ s
  refine Calls.spliced_cons (lam_make2 I TB hcode hmT hu hT hdef (L.has I.ok) fun f c' pm' ctv H1 s' I1 eN T1 hf hfn hfr hco => ?_)
  refine Calls.spliced_nil ⟨I1.kIn, ?_⟩
  have rc : codeAny (model X.prog X.w) X.A (.call (.ref (dg.ad X.K)) ⟨[.ref f], []⟩) (CR L2.CX0 X.stack X.prog X.w H1 s' Q L2.E0) s' := by
    refine body_runS (k := k + 1) (us := [.ref f]) (vs := [.ref f]) F Sg (hr.mono hk) I1.env0 (FunD.bindsA (ps := [a]) F hb s' [.ref f] rfl) rfl (.cons rfl .nil) fun hr' => ?_
    obtain ⟨t', ht', hq'⟩ := hG _ f c' s' H1 Q (fun E H' Q' => t E σ H' Q') hr' (fun W pn xe E p1 p2 tk hW => pe_actG (i := 0) I1 L hf hfn hfr (hbind _ _ _ _ _) tk hW hr' (fun A outer s H hr2 => hbody A outer s H E f c' hr2) hNg hva hd hcd) hco (h H1 eN T1)
    exact ⟨t', ht'.nox, hq'⟩
  refine wpAny_call (codeAny_mono rc fun r s2 hq => ?_)
  match r, hq with
  | .ok (.ret u), hq => exact I1.after hq
end
/-- the name of the lambdas of the def d -/
def qOf (d : DefG) : Str := (envOfC d.qual d.scope 0 0 .none).qual ++ Str.ofString "<lambda>"
end Ah

/-! points: pairs of a number and a text, and their order -/
namespace Ah
open PySem PySem.Spec PyProof.Rows L2 He
abbrev Pt : Type := Int × Str
def ptD (p : Pt) : PyData := .tuple [.int p.1, .str p.2]
/-- a point's pair stands at a -/
def PtAt (H : Hp) (a : Addr) (p : Pt) : Prop := H a = some (.tup [.int p.1, .str p.2])
theorem PtAt.same {H H' : Hp} {a : Addr} {p : Pt} (h : PtAt H a p) (s : Same H H') : PtAt H' a p := s _ _ h
theorem PtAt.dp {K : Frag} {H : Hp} {a : Addr} {p : Pt} (h : PtAt H a p) : Dp K H (.ref a) (ptD p) := .tup (SqT.of h) (.cons (.int _) (.cons (.str _) .nil))
def ptLt (p q : Pt) : Bool := PySem.W.dataLt (ptD p) (ptD q)
theorem ptLt_eq (p q : Pt) : ptLt p q = (decide (p.1 < q.1) || (decide (p.1 = q.1) && decide (p.2.cps.toList < q.2.cps.toList))) := by
  obtain ⟨n, z⟩ := p
  obtain ⟨m, y⟩ := q
  show PyProof.Rows.lexLt PyProof.Rows.itemOrd [.inl 1, .inl n, .inl 1, .inr z.cps.toList, .inl 0] [.inl 1, .inl m, .inl 1, .inr y.cps.toList, .inl 0] = _
  have i1 : PyProof.Rows.itemOrd.blt (.inl 1) (.inl 1) = false := rfl
  have i0 : PyProof.Rows.itemOrd.blt (.inl 0) (.inl 0) = false := rfl
  have e1 : PyProof.Rows.itemOrd.blt (.inl n) (.inl m) = decide (n < m) := rfl
  have e2 : PyProof.Rows.itemOrd.blt (.inl m) (.inl n) = decide (m < n) := rfl
  have e3 : PyProof.Rows.itemOrd.blt (.inr z.cps.toList) (.inr y.cps.toList) = decide (z.cps.toList < y.cps.toList) := rfl
  have e4 : PyProof.Rows.itemOrd.blt (.inr y.cps.toList) (.inr z.cps.toList) = decide (y.cps.toList < z.cps.toList) := rfl
  have en : PyProof.Rows.lexLt PyProof.Rows.itemOrd ([] : List (Int ⊕ List Nat)) [] = false := rfl
  rw [lex_cons, lex_cons, lex_cons, lex_cons, lex_cons, i1, i0, e1, e2, e3, e4, en]
  by_cases h1 : n < m
  · simp [h1]
  · by_cases h2 : m < n
    · simp [h1, h2, show n ≠ m by omega]
    · simp [h1, h2, show n = m by omega]
theorem ptLt_irrefl (p : Pt) : ptLt p p = false := by
  rw [ptLt_eq]
  simp
theorem ptLt_asymm {p q : Pt} (h : ptLt p q = true) : ptLt q p = false := by
  cases e : ptLt q p with
  | false => rfl
  | true =>
    have z := (listOrd itemOrd).trans (PySem.W.keyToks (ptD p)) (PySem.W.keyToks (ptD q)) (PySem.W.keyToks (ptD p)) h e
    exact absurd ((ptLt_irrefl p).symm.trans z) Bool.false_ne_true
theorem ptLt_trans {p q r : Pt} (h : ptLt p q = true) (h' : ptLt q r = true) : ptLt p r = true := (listOrd itemOrd).trans (PySem.W.keyToks (ptD p)) (PySem.W.keyToks (ptD q)) (PySem.W.keyToks (ptD r)) h h'
theorem ptLt_total {p q : Pt} (h : ptLt p q = false) (h' : ptLt q p = false) : p = q := by
  rw [ptLt_eq] at h h'
  obtain ⟨n, z⟩ := p
  obtain ⟨m, y⟩ := q
  simp only [Bool.or_eq_false_iff, Bool.and_eq_false_iff, decide_eq_false_iff_not] at h h'
  have e : n = m := by omega
  subst e
  have e2 : z.cps.toList = y.cps.toList := List.le_antisymm (List.not_lt.mp (h'.2.resolve_left (by simp))) (List.not_lt.mp (h.2.resolve_left (by simp)))
  rw [PySem.W.str_of_cps e2]
theorem pt_alike (p q : Pt) : PySem.W.alike (ptD p) (ptD q) = true := rfl
section
variable {X : Cx} {k : Nat}
def rPt (f : Pt → Pt → Bool) : V → V → Hp → VK → Prop := fun x y H Q => ∃ (a b : Addr) (p q : Pt), x = .ref a ∧ y = .ref b ∧ PtAt H a p ∧ PtAt H b q ∧ Q (.bl (f p q)) H
theorem op_ltP (hu : X.A.units + 64 < cLine) : OpR X (compareOp .Lt) (rPt ptLt) := by
  intro pins s σ H x y v u Q I rx ry h
  obtain ⟨a, b, p, q, rfl, rfl, hp, hq, k⟩ := h
  obtain ⟨as, r1⟩ := Dp.reads I _ _ v hp.dp rx
  obtain ⟨bs, r2⟩ := Dp.reads I _ _ u hq.dp ry
  exact PySem.W.lt_data r1 r2 (pt_alike p q) (by intro z; cases z) (by simp [ptD, PyData.depth, PyData.depthAll]; omega) ⟨.bl _, H, I, rfl, k⟩
end
/-! is_point -/
def textOk (l : List Nat) : Bool := if l.getLast? = some 33 then isKeyL l.dropLast else isKeyL l
/-- is_point of a pair, by the kinds of its items -/
def ptK (ku kt : Kn) : Bool := ku.within 0 4294967296 && (match kt with
  | .str z => z.cps.toList.isEmpty || ((match ku with | .int i => !decide (i = 4294967296) | _ => true) && textOk z.cps.toList)
  | _ => false)
theorem ptK_is (i : Int) (z : Str) : ptK (.int i) (.str z) = ((Kn.int i).within 0 4294967296 && (z.cps.toList.isEmpty || (!decide (i = 4294967296) && textOk z.cps.toList))) := rfl
theorem textOk_snoc (l : List Nat) (c : Nat) : textOk (l ++ [c]) = if c = 33 then isKeyL l else isKeyL (l ++ [c]) := by
  unfold textOk
  simp
/-- is_point(x) is b -/
inductive PtV (K : Frag) (H : Hp) : V → Bool → Prop
  | no {x : V} {k : Kn} (h : Is K H x k) (hk : k.isT "tuple" = false) : PtV K H x false
  | len {a : Addr} {l : List V} (e : H a = some (.tup l)) (hl : l.length ≠ 2) (hm : l.length ≤ 1000) : PtV K H (.ref a) false
  | two {a : Addr} {u t : V} {ku kt : Kn} (e : H a = some (.tup [u, t])) (hu : Is K H u ku) (ht : Is K H t kt) (hs : kt.small) : PtV K H (.ref a) (ptK ku kt)
theorem PtV.same {K : Frag} {H H' : Hp} {x : V} {b : Bool} (h : PtV K H x b) (s : Same H H') : PtV K H' x b := by
  cases h with
  | no h hk => exact .no (h.same s) hk
  | len e hl hm => exact .len (s _ _ e) hl hm
  | two e hu ht hs => exact .two (s _ _ e) (hu.same s) (ht.same s) hs
/-- a point by its parts -/
def isPt (p : Pt) : Bool := ptK (.int p.1) (.str p.2)
theorem PtAt.ptv {K : Frag} {H : Hp} {a : Addr} {p : Pt} (h : PtAt H a p) (hp : isPt p = true) (hs : p.2.length ≤ 1000000) : PtV K H (.ref a) true := by
  have z : PtV K H (.ref a) (ptK (.int p.1) (.str p.2)) := .two h (.int _) (.str _) hs
  rw [show ptK (.int p.1) (.str p.2) = true from hp] at z
  exact z
/-- an error of the class C with one field goes out, over the heap H -/
def Out1 (K : Frag) (E : XK) (H : Hp) (C f : Str) (v : V) : Prop := ∀ (H' : Hp) (d : Addr), Same H H' → H' d = some (.xd [(f, v)]) → E (.ref (ga K C)) (some d) H'
def Out2 (K : Frag) (E : XK) (H : Hp) (C f g : Str) (v w : V) : Prop := ∀ (H' : Hp) (d : Addr), Same H H' → H' d = some (.xd [(g, w), (f, v)]) → E (.ref (ga K C)) (some d) H'
theorem Out1.same {K : Frag} {E : XK} {H H' : Hp} {C f : Str} {v : V} (o : Out1 K E H C f v) (s : Same H H') : Out1 K E H' C f v := fun H2 d s2 h => o H2 d (s.trans s2) h
theorem Out2.same {K : Frag} {E : XK} {H H' : Hp} {C f g : Str} {v w : V} (o : Out2 K E H C f g v w) (s : Same H H') : Out2 K E H' C f g v w := fun H2 d s2 h => o H2 d (s.trans s2) h
/-- raise C(v) -/
theorem Out1.mk {K : Frag} {E : XK} {H : Hp} {C f : Str} {v : V} (o : Out1 K E H C f v) {ta : TA} {σ : L2.St} (ha : ∀ Q' : List V → Hp → Prop, Q' [v] H → ta σ H Q') : tMkO (ga K C) (spX1 (ga K C) f) [] ta σ H fun cls d H' => E cls d H' := by
  refine ha _ ⟨by simp, mkX1 fun d hd => o _ d (Same.upd (Same.refl _) hd) upd_same⟩
theorem Out2.mk {K : Frag} {E : XK} {H : Hp} {C f g : Str} {v w : V} (o : Out2 K E H C f g v w) {ta : TA} {σ : L2.St} (ha : ∀ Q' : List V → Hp → Prop, Q' [v, w] H → ta σ H Q') : tMkO (ga K C) (spX2 (ga K C) f g) [] ta σ H fun cls d H' => E cls d H' := by
  refine ha _ ⟨by simp, mkX2 fun d hd => o _ d (Same.upd (Same.refl _) hd) upd_same⟩
/-! arcs -/
def ArcAt (K : Frag) (H : Hp) (x : Addr) (p q : Pt) : Prop := ∃ dx a b : Addr, H x = some (.ins (ga K "Arc") dx [("own_start", .ref a), ("own_end", .ref b)]) ∧ PtAt H a p ∧ PtAt H b q
theorem ArcAt.same {K : Frag} {H H' : Hp} {x : Addr} {p q : Pt} (h : ArcAt K H x p q) (s : Same H H') : ArcAt K H' x p q := by
  obtain ⟨dx, a, b, h1, h2, h3⟩ := h
  exact ⟨dx, a, b, s _ _ h1, s _ _ h2, s _ _ h3⟩
theorem textOk_key {l : List Nat} (h : isKeyL l = true) : textOk l = true := by
  unfold textOk
  split
  · rename_i e
    have m : (33 : Nat) ∈ l := List.mem_of_getLast? e
    unfold isKeyL at h
    have h3 := List.all_eq_true.mp (Bool.and_eq_true_iff.mp h).2 33 m
    exact absurd h3 (by decide)
  · exact h
theorem textOk_behind {z : Str} (h : isKeyL z.cps.toList = true) : textOk (z ++ Str.ofString "!").cps.toList = true := by
  rw [tl_app, show (Str.ofString "!").cps.toList = [33] by decide +kernel, textOk_snoc, if_pos rfl]
  exact h
theorem isPt_of {v : Int} {z : Str} (h0 : 0 ≤ v) (h1 : v < 4294967296) (h : z.cps.toList = [] ∨ textOk z.cps.toList = true) : isPt (v, z) = true := by
  show ptK (.int v) (.str z) = true
  rw [ptK_is]
  have e : (Kn.int v).within 0 4294967296 = true := by
    simp [Kn.within]
    omega
  rw [e, decide_eq_false (by omega)]
  rcases h with h | h
  · rw [h]
    rfl
  · rw [h]
    simp
theorem strOk_behind {z : Str} (h : PyData.strOk z = true) : PyData.strOk (z ++ Str.ofString "!") = true := by
  unfold PyData.strOk at h ⊢
  rw [← Array.all_toList] at h ⊢
  rw [tl_app, List.all_append, h]
  decide +kernel
theorem ptFalse {K : Frag} {H : Hp} {x : V} {b : Bool} (e : b = false) (h : PtV K H x b) : PtV K H x false := e ▸ h
end Ah

/-! a method with a starred parameter: its rest is a new tuple -/
namespace Ah
open PySem PySem.Spec PyProof.Rows L2 He
def tupO (rs : List Value) : Obj := { cls := .type "tuple", data := .seq rs.toArray }
abbrev pushT (s : Shared) (rs : List Value) : Shared := { s with heap := s.heap.push (tupO rs) }
/-- the def at f, called by n own arguments and a rest -/
structure FnV (P : Program) (w : World) (K : Frag) (mg : Str → Option Value) (base : Heap) (k : Nat) (f : Addr) (n : Nat) (sp : Sp) : Prop where
  run : ∀ (A : Around) (outer : List Env) (s : Shared) (H : Hp) (us rs : List Value) (vs : List V) (Q : VK) (E : XK) (R : Result → Shared → Prop), Rm k A → Env0 P w K mg base A outer (pushT s rs) H → us.length = n → Vals vs us → K.In s.heap → rs.length ≤ sizeLine →
    sp (vs ++ [.ref s.heap.objs.size]) H Q E → (∀ r s', CR (L2.CX P w) outer P w H (pushT s rs) Q E r s' → R r s') → codeAny (model P w) A (.call (.ref f) ⟨us ++ rs, []⟩) R s
  kp : PySem.W.keepIn K (.ref f) = true
section
variable {P : Program} {w : World} {K : Frag} {mg : Str → Option Value} {base : Heap}
theorem okV {N ps : List Str} {x : Str} {k : Nat} {sp : Sp} {d : DefG} (S : Stands K d) (h0 : d.dfl = []) (sc : FnScope N (ps ++ [x]) d.scope) (len : ∀ vs H Q E, sp vs H Q E → vs.length = ps.length + 1)
    (hb : ∀ (kV doc pm : Value) (an : Option Addr) (cdv ct : Value) (us rs : List Value), us.length = ps.length → bindArgs (PySem.W.fnOf d.name d.qual d.params d.body d.scope .none kV doc pm an cdv ct) ⟨us ++ rs, []⟩ = (newTuple rs >>= fun t => pure ((ps ++ [x]).zip (us ++ [t]))))
    (hbody : BodyB (L2.CX P w) P w K mg base N d k sp) : FnV P w K mg base (k + 1) (d.ad K) ps.length sp := by
  obtain ⟨fd, F⟩ := S
  have e : d.dvs K = [] := by unfold DefG.dvs; rw [h0]; rfl
  rw [e] at F
  refine ⟨fun A outer s H us rs vs Q E R hr e0 hl r KX hz hsp hR => codeAny_mono ?_ fun res s' hq => hR res s' hq, F.kp⟩
  obtain ⟨oc, od, dV, kV, doc, pm, an, cdv, ct, osl, rfl, lk, hcd, hdf, _⟩ := F.ex
  have ed : dV = .none := by
    rcases hdf with ⟨_, z⟩ | ⟨z, _⟩
    · exact z
    · exact absurd rfl z
  subst ed
  have lim : (pushT s rs).heap.NoLimit := e0.mod.nolimit.keeps fun b o e => (e0.bs b o e).1
  have KX1 : K.In (pushT s rs).heap := e0.mod.kin.keeps fun b o e => (e0.bs b o e).1
  have hl2 : (vs ++ [V.ref s.heap.objs.size]).length = (ps ++ [x]).length := by rw [len _ _ _ _ hsp, List.length_append]; rfl
  have r2 : Vals (vs ++ [V.ref s.heap.objs.size]) (us ++ [.ref s.heap.objs.size]) := r.append (.cons rfl .nil)
  have par : ∀ y ∈ (ps ++ [x]).zip (us ++ [Value.ref s.heap.objs.size]), d.scope.names.lookup y.1 = some .local ∨ (d.scope.names.lookup y.1 = some .cell ∧ ((cellsFrom ((pushT s rs).heap.objs.size + 1) d.scope.names []).lookup y.1).isSome = true) := by
    rintro ⟨n, v⟩ hy
    cases sc.par n (List.of_mem_zip hy).1 with
    | inl q => exact Or.inl q
    | inr q => exact Or.inr ⟨q, PySem.W.cellsFrom_some _ _ _ (Or.inl q)⟩
  refine codeAny_call_function hr.r.depth (KX _ _ lk) rfl sc.co sc.gen rfl (PySem.W.codeRec_of KX hcd) ?_
  rw [hb kV doc pm an cdv ct us rs hl]
  refine wpAny_bind (wpAny_newTuple (wpAny_pure ?_) hz)
  refine wpAny_newFunctionEnv_cells sc.kind par fun env he s1 x1 => ?_
  subst he
  refine ⟨lim.keeps x1.toInCall.keep, codeAny_func ?_⟩
  have ec : CodeV K (d.ad K) = cdv := by
    unfold CodeV
    rw [lk]
  subst ec
  have hr' : Rm k (A.deeper (envOfC d.qual d.scope (pushT s rs).heap.objs.size (d.ad K) (CodeV K (d.ad K)))) := ⟨hr.r.deeper _, hr.g⟩
  obtain ⟨t, ht, hq⟩ := hbody A outer (pushT s rs) H _ Q E hr' hsp
  have I := inv_start (CX := L2.CX P w) (E := E) sc hr.r.hd e0 hl2 r2 x1
  refine wpAny_mono (ht.run [] s1 (L2.start N _) H _ I hq) (fun fl s' hs => ?_) fun _ _ hs => hs
  cases fl with
  | ret u =>
    obtain ⟨v, _, H', J, rv, q⟩ := hs
    exact ⟨v, H', J.os, J.bare, J.base, J.hok, rv, q⟩
  | next =>
    obtain ⟨_, H', J, q⟩ := hs
    exact ⟨V.non, H', J.os, J.bare, J.base, J.hok, rfl, q⟩
  | brk => exact hs.elim fun _ z => z.elim fun _ z => z.2.elim
  | cont => exact hs.elim fun _ z => z.elim fun _ z => z.2.elim
end
section
variable {X : Cx} {k j : Nat} {f C : Addr} {sp : Sp} {E : XK} {x m : Str} {e o : Expr} {es : List Expr} {t : TA} {ta : TE} {p pos apos : Pos}
/-- o.m(e, ..), m's def has self and a starred parameter -/
theorem pe_mtV {pl : Sem Bool} (he : PE X o ta) (c : Cls X.K C) (hm : Meth X.K C m f) (F : FnV X.prog X.w X.K X.mg X.base k f 1 sp) (hr : Rm j X.A) (hx : Passes (L2.CX X.prog X.w) X E) (ha : PA X (e :: es) t) (hk : k ≤ j := by decide)
    (hst : starEach (e :: es) X.env = (false, eval e X.env) :: starEach es X.env := by rfl) (hpl : (backTo pos (starEach es X.env)).any (·.1) = false := by rfl)
    (ht : eval (.Call (.Attribute o m apos) (e :: es) [] pos) X.env = (do
      let ov ← eval o X.env
      standAt apos.atName
      let (f, first) ← holding [ov] (getMethod ov m pl)
      callWith pos f first (backTo pos (starEach (e :: es) X.env)) (backToKw pos (keywordEach [] X.env))) := by rfl) :
    PE X (.Call (.Attribute o m apos) (e :: es) [] pos) (tMeth C m (fun vs H Q E => ∃ x ws, vs = x :: ws ∧ ws.length ≤ sizeLine ∧ ∀ p, H p = none → sp [x, .ref p] (upd H p (.tup ws)) Q E) [] E ta t) := by
  refine ⟨fun pins s σ H Q I h => PySem.W.methodCall_KW (pl := pl) (thn (he.run pins s σ H _ I h) fun u s1 ⟨x, H1, I1, rx, a, dx, fs, ex, ea, l, q⟩ => ?_) ht⟩
  subst ex
  cases (show u = Value.ref a from rx)
  refine getmeth_ok I1 ea c hm l (PySem.W.callWith_K (first := [.ref a]) (h₀ := X.base) I.ok.mod.kin hm.kp (thn (ha.run pos pins s1 σ H1 _ I1 q) fun us s2 ⟨vs, H2, I2, r, q2⟩ => ⟨I2.kIn, ?_⟩) hst hpl)
  simp only [List.append_nil] at q2
  obtain ⟨x, ws, e1, hz, q3⟩ := q2
  simp only [List.cons.injEq] at e1
  obtain ⟨rfl, rfl⟩ := e1
  have hf : H2 s2.heap.objs.size = none := I2.hok.fresh (Nat.le_refl _)
  have I3 : L2.Inv X pins σ (upd H2 s2.heap.objs.size (.tup vs)) (pushT s2 us) := by
    refine I2.laid (t' := s2.toks) (fun b u e => Heap.get?_push_of_some _ e) (Nat.le_refl _) ?_
    exact ⟨hz, us, r, ⟨_, Heap.get?_push_size _ rfl, rfl, _, rfl⟩⟩
  refine wpAny_call (F.run X.A X.stack s2 _ [.ref a] us [.ref a] Q E _ (hr.mono hk) I3.env0 rfl (.cons rfl .nil) I2.kIn (by rw [← r.length]; exact hz) (q3 _ hf) fun res s' hq => ?_)
  match res, hq with
  | .error e, hq => exact hx pins σ _ _ e s' I3 hq
  | .ok (.ret u), hq => exact I3.after hq
end
end Ah

/-! the state of a law's turn: what was there is kept, the pool is a pool, the tables are tables -/
namespace Ah
open PySem PySem.Spec PyProof.Rows L2 He LamX
/-- cut a suite behind its first statement: N is what comes next -/
theorem seq_gen {A B : TS} {D : Ends} {σ : L2.St} {H : Hp} (P : L2.St → Hp → Prop) (h : ∀ N : L2.St → Hp → Prop, (∀ σ' H', P σ' H' → N σ' H') → A { D with nx := N } σ H) (hB : ∀ σ' H', P σ' H' → B D σ' H') : tSeq A B D σ H := h (B D) hB
theorem one_gen {A : TS} {D : Ends} {σ : L2.St} {H : Hp} (P : L2.St → Hp → Prop) (h : ∀ N : L2.St → Hp → Prop, (∀ σ' H', P σ' H' → N σ' H') → A { D with nx := N } σ H) (hB : ∀ σ' H', P σ' H' → D.nx σ' H') : A D σ H := h D.nx hB
/-- all but the pool and the tables stay -/
def Nx (pl : Addr) (H H' : Hp) : Prop := ∀ b o, b ≠ pl → H b = some o → (∀ ps, o ≠ .tbl ps) → H' b = some o
theorem Nx.refl {pl : Addr} {H : Hp} : Nx pl H H := fun _ _ _ h _ => h
theorem Nx.trans {pl : Addr} {H H1 H2 : Hp} (a : Nx pl H H1) (b : Nx pl H1 H2) : Nx pl H H2 := fun c o n h t => b c o n (a c o n h t) t
theorem Nx.same {pl : Addr} {H H' : Hp} (s : Same H H') : Nx pl H H' := fun b o _ h _ => s b o h
theorem Nx.ex {pl : Addr} {H H' : Hp} (s : Ex pl H H') : Nx pl H H' := fun b o n h _ => s b o n h
theorem Nx.ext {pl : Addr} {H H' : Hp} (s : ExtN H H') : Nx pl H H' := fun b o _ h t => s b o h t
theorem Nx.new {pl p : Addr} {H H' : Hp} {o : HO} (s : Nx pl H H') (h : H' p = none) : Nx pl H (upd H' p o) := s.trans (.same (Same.upd (Same.refl _) h))
structure Bs (T : List (Addr × Str)) (H0 : Hp) (pl : Addr) (H : Hp) : Prop where
  ext : ExtN H0 H
  pool : PoolAt H pl
  tabs : Tabs T H
  new : H0 pl = none ∨ ∃ ps, H0 pl = some (.tbl ps)
section
variable {T : List (Addr × Str)} {H0 H H' : Hp} {pl r : Addr}
theorem Bs.same (b : Bs T H0 pl H) (s : Same H H') : Bs T H0 pl H' := ⟨b.ext.trans (.of s), b.pool.same s, b.tabs.ext s, b.new⟩
theorem Bs.upd {p : Addr} {o : HO} (b : Bs T H0 pl H) (h : H p = none) : Bs T H0 pl (upd H p o) := b.same (Same.upd (Same.refl _) h)
theorem Bs.lam (b : Bs T H0 pl H) (e : ExtN H H') (t : Tabs T H') : Bs T H0 pl H' := by
  refine ⟨b.ext.trans e, ?_, t, b.new⟩
  obtain ⟨p, q, h⟩ := b.pool
  exact ⟨p, q, e _ _ h (fun ps z => by cases z)⟩
theorem Bs.ex (b : Bs T H0 pl H) (x : Ex pl H H') (hp : PoolAt H' pl) : Bs T H0 pl H' := by
  obtain ⟨p, q, h⟩ := b.pool
  refine ⟨fun c o hc ht => x c o (fun z => ?_) (b.ext c o hc ht), hp, fun t ht => ?_, b.new⟩
  · rw [z] at hc
    rcases b.new with n | ⟨ps, n⟩
    · rw [n] at hc
      cases hc
    · rw [n] at hc
      cases hc
      exact ht ps rfl
  · obtain ⟨ps, h1, h2, h3⟩ := b.tabs t ht
    refine ⟨ps, x _ _ (fun z => ?_) h1, h2, fun pos cv hc => ?_⟩
    · rw [z, h] at h1
      cases h1
    · obtain ⟨c, e1, e2⟩ := h3 pos cv hc
      refine ⟨c, e1, x _ _ (fun z => ?_) e2⟩
      rw [z, h] at e2
      unfold CodeO at e2
      cases e2
/-- a new address is not the pool's -/
theorem Bs.ne (b : Bs T H0 pl H) (h : H r = none) : r ≠ pl := b.pool.ne h
theorem PtAt.nx {p : Pt} (h : PtAt H r p) (b : PoolAt H pl) (x : Nx pl H H') : PtAt H' r p := by
  obtain ⟨i, j, e⟩ := b
  exact x _ _ (ne_of h e (fun z => by cases z)) h (fun ps z => by cases z)
theorem ArcAt.nx {K : Frag} {p q : Pt} (h : ArcAt K H r p q) (b : PoolAt H pl) (x : Nx pl H H') : ArcAt K H' r p q := by
  obtain ⟨dx, a, c, h1, h2, h3⟩ := h
  have bb := b
  obtain ⟨i, j, e⟩ := b
  exact ⟨dx, a, c, x _ _ (ne_of h1 e (fun z => by cases z)) h1 (fun ps z => by cases z), h2.nx bb x, h3.nx bb x⟩
end
theorem freeN {H H' : Hp} {p : Addr} (e : ExtN H H') (h : H' p = none) : H p = none ∨ ∃ ps, H p = some (.tbl ps) := by
  cases q : H p with
  | none => exact .inl rfl
  | some o =>
    by_cases ht : ∃ ps, o = .tbl ps
    · obtain ⟨ps, rfl⟩ := ht
      exact .inr ⟨ps, rfl⟩
    · have z := e p o q fun ps hz => ht ⟨ps, hz⟩
      rw [h] at z
      cases z
theorem seqN {K : Frag} {H H' : Hp} {a : Addr} {xs : List V} (h : SqL K H a xs) (e : ExtN H H') : SqL K H' a xs := by
  rcases h with (h | ⟨o, h⟩) | h
  · exact .inl (.inl (e _ _ h fun ps z => by cases z))
  · exact .inl (.inr ⟨o, e _ _ h fun ps z => by cases z⟩)
  · exact .inr h
theorem same_made {H : Hp} {x dx C : Addr} {o : HO} {fs : List (Str × V)} (nx : H x = none) (ndx : H dx = none) (ne : dx ≠ x) : Same H (upd (upd H dx o) x (.ins C dx fs)) := Same.upd (Same.upd (Same.refl _) ndx) (by rw [upd_ne ne.symm]; exact nx)
theorem sameOf {H H' : Hp} {p : Addr} {o : HO} (n : H p = none) (h : upd H p o = H') : Same H H' := by
  subst h
  exact Same.upd (Same.refl _) n
theorem atOf {H H' : Hp} {p : Addr} {o : HO} (h : upd H p o = H') : H' p = some o := by
  subst h
  exact upd_same
theorem PoolAt.ne' {H : Hp} {a b : Addr} {o : HO} (h : PoolAt H a) (hb : H b = none) : b ≠ a := h.ne hb
/-- an object that stays -/
theorem Nx.at {pl p : Addr} {H H' : Hp} {o : HO} (x : Nx pl H H') (h : H p = some o) (n : p ≠ pl) (t : ∀ ps, o ≠ .tbl ps := by intro ps z; cases z) : H' p = some o := x p o n h t
theorem madeOf {H H' : Hp} {x dx : Addr} {o o' : HO} (nx : H x = none) (ndx : H dx = none) (ne : dx ≠ x) (h : upd (upd H dx o) x o' = H') : Same H H' := by
  subst h
  exact Same.upd (Same.upd (Same.refl _) ndx) (by rw [upd_ne ne.symm]; exact nx)
end Ah

/-! repr(v) is z -/
namespace Ah
open PySem PySem.Spec PySem.W PySem.Calls PyProof.Rows L2 He
inductive Rp (K : Frag) (H : Hp) : V → Str → Prop
  | data {v : V} (d : PyData) (h : Dp K H v d) (h1 : d.showable = true) (h2 : d.hasDict = false) (h3 : d.depth ≤ 64) (h4 : d.shown.length ≤ sizeLine) : Rp K H v d.shown
  | edict {a : Addr} (h : H a = some (.dK [])) : Rp K H (.ref a) "{}"
def rReprV (K : Frag) : List V → Hp → VK → Prop := fun xs H Q => ∃ (x : V) (z : Str), xs = [x] ∧ Rp K H x z ∧ Q (.str z) H
theorem call_reprV {X : Cx} (hg : X.A.guards = some []) (hu : X.A.units + 99 < cLine) : CallR X (.builtin "repr") (rReprV X.K) := by
  intro pins s σ H xs us Q I r h
  obtain ⟨x, z, rfl, hx, q⟩ := h
  cases hx with
  | data d h h1 h2 h3 h4 => exact call_reprD hg hu pins s σ H _ us Q I r ⟨x, d, rfl, h, h1, h2, h3, h4, q⟩
  | @edict a h =>
    obtain ⟨u, rfl, ru⟩ := r.one
    cases (show u = Value.ref a from ru)
    obtain ⟨_, hsys, vs, kv, o, es, ep, ho, hx, hd, _, hp, _⟩ := I.hok a _ h
    have ev : vs = [] := by cases kv; rfl
    subst ev
    have ee : es = #[] := by
      have z : es.toList = [] := List.eq_nil_of_length_eq_zero hp.length
      exact Array.toList_eq_nil_iff.mp z
    subst ee
    have rd : Reads s.heap (.ref a) (.dict []) ([a] ++ []) := Reads.dict ho hx.1 hd .nil .nil
    have hs : (PyData.dict []).shown = ("{}" : Str) := by decide +kernel
    refine repr_of_reads' rd rfl (fun _ hm => ?_) hg (by show X.A.units + (1 + 1) < cLine; omega) (fun _ _ z => z) (fun h' t tk hk => ?_) (by rw [hs]; decide +kernel)
    · have : sysModules = a := by simpa using hm
      rw [this] at hsys
      simp at hsys
    · rw [hs]
      exact ⟨.str "{}", H, I.kept (t' := tk) hk, ⟨t, rfl⟩, q⟩
theorem call_reprVX {X : Cx} {a : Addr} {cls : Value} {d : Option Addr} {oe : Obj} {pn : List (Addr × Obj)} (hz : Zc cls d oe) (hg : (X.suite a ((a, oe) :: pn)).A.guards = some []) (hu : (X.suite a ((a, oe) :: pn)).A.units + 99 < cLine) : CallR (X.suite a ((a, oe) :: pn)) (.builtin "repr") (rReprV X.K) :=
  call_reprV hg hu
end Ah

/-! operators of own instances -/
namespace Ah
open PySem PySem.Spec PySem.W PySem.Calls PyProof.Rows L2 He
def Kn.least : Kn → Int → Bool
  | .int i, m => decide (m ≤ i)
  | _, _ => false
def Kn.isInt : Kn → Bool
  | .int _ => true
  | _ => false
theorem isInt_eq (k : Kn) : (k.isT "int" && !k.isT "bool") = k.isInt := by cases k <;> rfl
section
variable {X : Cx} {k j : Nat} {f C : Addr} {sp : Sp} {E : XK}
/-- len(x), x an instance of C with its own __len__ -/
def rLenO (C : Addr) (sp : Sp) (E : XK) : List V → Hp → VK → Prop := fun xs H Q => ∃ a dx fs, xs = [.ref a] ∧ H a = some (.ins C dx fs) ∧ sp [.ref a] H (fun z H' => ∃ n : Nat, z = .int n ∧ n < 2 ^ 62 ∧ Q (.int n) H') E
theorem call_lenO (hm : Meth X.K C "__len__" f) (G : FnB X.prog X.w X.K X.mg X.base k f sp) (hr : Rm j X.A) (hx : Passes (L2.CX X.prog X.w) X E) (hk : k + 1 ≤ j := by decide) : CallR X (.builtin "len") (rLenO C sp E) := by
  intro pins s σ H xs us Q I r h
  obtain ⟨a, dx, fs, rfl, ha, q⟩ := h
  obtain ⟨u, rfl, ru⟩ := r.one
  cases (show u = Value.ref a from ru)
  obtain ⟨mA, O, _⟩ := ins_get I.hok ha
  obtain ⟨od, J, _⟩ := O.look
  obtain ⟨m, Fr⟩ := I.fr
  have hr1 : Rm (k + 1) X.A := hr.mono hk
  refine len_K Fr I.mod.kin J hm.at_ hm.fn (wpAny_mono (wpAny_call (runB (us := [.ref a]) (vs := [.ref a]) G hr1.in1 I.env0.in1 hx I (.cons rfl .nil) q)) (fun w s' z => ?_) fun _ _ x => x)
  obtain ⟨z', H', I', rz, n, en, hn, qz⟩ := z
  subst en
  obtain ⟨t, e⟩ := (show ∃ t, w = Value.int n t from rz)
  subst e
  exact ⟨⟨by omega, by omega⟩, .int n, H', I'.tok _, ⟨_, rfl⟩, qz⟩
end
end Ah

/-! change logs: rows, and how they lie -/
namespace Ah
open PySem PySem.Spec PyProof.Rows L2 He
abbrev LRow : Type := Int × Str × Option Int × Option Int
def oV : Option Int → V
  | none => .non
  | some i => .int i
def oD : Option Int → PyData
  | none => .none
  | some i => .int i
theorem dpO {K : Frag} {H : Hp} (o : Option Int) : Dp K H (oV o) (oD o) := by
  cases o
  · exact .non
  · exact .int _
def rowV (r : LRow) : List V := [.int r.1, .str r.2.1, oV r.2.2.1, oV r.2.2.2]
def rowD (r : LRow) : PyData := .tuple [.int r.1, .str r.2.1, oD r.2.2.1, oD r.2.2.2]
/-- the rows lie at these addresses -/
inductive RowsAt (H : Hp) : List Addr → List LRow → Prop
  | nil : RowsAt H [] []
  | cons {a : Addr} {r : LRow} {as : List Addr} {rs : List LRow} (h : H a = some (.tup (rowV r))) (t : RowsAt H as rs) : RowsAt H (a :: as) (r :: rs)
/-- tuples stay -/
def Tk (H H' : Hp) : Prop := ∀ b xs, H b = some (.tup xs) → H' b = some (.tup xs)
theorem Tk.refl {H : Hp} : Tk H H := fun _ _ h => h
theorem Tk.trans {H H1 H2 : Hp} (a : Tk H H1) (b : Tk H1 H2) : Tk H H2 := fun c xs h => b c xs (a c xs h)
theorem Tk.same {H H' : Hp} (s : Same H H') : Tk H H' := fun b xs h => s b _ h
theorem Tk.ext {H H' : Hp} (s : LamX.ExtN H H') : Tk H H' := fun b xs h => s b _ h (fun ps z => by cases z)
theorem Tk.upd {H : Hp} {p : Addr} {o o' : HO} (h : H p = some o) (n : ∀ xs, o ≠ .tup xs) : Tk H (upd H p o') := fun b xs hb => by
  by_cases e : b = p
  · subst e
    rw [h] at hb
    exact absurd (Option.some.inj hb) (n xs)
  · rw [upd_ne e]
    exact hb
section
variable {H H' : Hp} {as bs : List Addr} {rs ss : List LRow}
theorem RowsAt.tk (h : RowsAt H as rs) (t : Tk H H') : RowsAt H' as rs := by
  induction h with
  | nil => exact .nil
  | cons h _ ih => exact .cons (t _ _ h) ih
theorem RowsAt.len (h : RowsAt H as rs) : as.length = rs.length := by
  induction h with
  | nil => rfl
  | cons _ _ ih => simp [ih]
theorem RowsAt.app (h : RowsAt H as rs) (g : RowsAt H bs ss) : RowsAt H (as ++ bs) (rs ++ ss) := by
  induction h with
  | nil => exact g
  | cons h _ ih => exact .cons h ih
theorem RowsAt.drop (h : RowsAt H as rs) (n : Nat) : RowsAt H (as.drop n) (rs.drop n) := by
  induction h generalizing n with
  | nil => simpa using RowsAt.nil
  | cons h t ih =>
    cases n with
    | zero => exact .cons h t
    | succ n => exact ih n
theorem RowsAt.at (h : RowsAt H as rs) {i : Nat} {a : Addr} (e : as[i]? = some a) : ∃ r, rs[i]? = some r ∧ H a = some (.tup (rowV r)) := by
  induction h generalizing i with
  | nil => simp at e
  | cons h t ih =>
    cases i with
    | zero =>
      simp at e
      subst e
      exact ⟨_, rfl, h⟩
    | succ i => exact ih (by simpa using e)
theorem RowsAt.at' (h : RowsAt H as rs) {i : Nat} {r : LRow} (e : rs[i]? = some r) : ∃ a, as[i]? = some a ∧ H a = some (.tup (rowV r)) := by
  induction h generalizing i with
  | nil => simp at e
  | cons h t ih =>
    cases i with
    | zero =>
      simp at e
      subst e
      exact ⟨_, rfl, h⟩
    | succ i => exact ih (by simpa using e)
theorem RowsAt.dps {K : Frag} (h : RowsAt H as rs) : DpAll K H (as.map V.ref) (rs.map rowD) := by
  induction h with
  | nil => exact .nil
  | cons h _ ih => exact .cons (.tup (SqT.of h) (.cons (.int _) (.cons (.str _) (.cons (dpO _) (.cons (dpO _) .nil))))) ih
end
/-- the texts of the rows can be laid -/
def RowsOk (rs : List LRow) : Prop := ∀ r ∈ rs, PyData.strOk r.2.1 = true
theorem canLay_row {r : LRow} (h : PyData.strOk r.2.1 = true) : PyData.canLay0 (rowD r) = true := by
  obtain ⟨m, k, o, n⟩ := r
  show (true && (PyData.strOk k && ((PyData.canLay0 (oD o)) && ((PyData.canLay0 (oD n)) && true)))) = true
  rw [show PyData.strOk k = true from h]
  cases o <;> cases n <;> rfl
theorem depth_row (r : LRow) : (rowD r).depth = 1 := by
  obtain ⟨m, k, o, n⟩ := r
  cases o <;> cases n <;> rfl
theorem canLay_rows : ∀ {rs : List LRow}, RowsOk rs → PyData.canLayAll0 (rs.map rowD) = true
  | [], _ => rfl
  | r :: rs, h => Bool.and_eq_true_iff.mpr ⟨canLay_row (h r (List.mem_cons_self)), canLay_rows fun q hq => h q (List.mem_cons_of_mem _ hq)⟩
theorem depth_rows : ∀ rs : List LRow, PyData.depthAll (rs.map rowD) ≤ 1
  | [] => by decide
  | r :: rs => by
    show max (rowD r).depth (PyData.depthAll (rs.map rowD)) ≤ 1
    rw [depth_row]
    have := depth_rows rs
    omega
theorem shaped_rows {rs : List LRow} (h : RowsOk rs) : SeqAt.shaped (.list (rs.map rowD)) = true := by
  refine Bool.and_eq_true_iff.mpr ⟨canLay_rows h, decide_eq_true ?_⟩
  show PyData.depthAll (rs.map rowD) + 1 ≤ 64
  have := depth_rows rs
  omega
theorem eqv_o (a b : Option Int) : PyData.eqv (oD a) (oD b) = decide (a = b) := by
  cases a <;> cases b
  · simp [oD, PyData.eqv]
  · simp [oD, PyData.eqv]
  · simp [oD, PyData.eqv]
  · simp only [oD, PyData.eqv]
    rw [Bool.eq_iff_iff]
    simp
theorem eqv_row (r s : LRow) : PyData.eqv (rowD r) (rowD s) = decide (r = s) := by
  obtain ⟨m, k, o, n⟩ := r
  obtain ⟨m', k', o', n'⟩ := s
  simp only [rowD, PyData.eqv, PyData.eqvAll, eqv_o]
  rw [Bool.eq_iff_iff]
  simp
theorem eqv_rows : ∀ rs ss : List LRow, PyData.eqvAll (rs.map rowD) (ss.map rowD) = decide (rs = ss)
  | [], [] => rfl
  | [], _ :: _ => rfl
  | _ :: _, [] => rfl
  | r :: rs, s :: ss => by
    show (PyData.eqv (rowD r) (rowD s) && PyData.eqvAll (rs.map rowD) (ss.map rowD)) = _
    rw [eqv_row, eqv_rows rs ss, Bool.eq_iff_iff]
    simp
/-- all but two addresses stay -/
def Ex2 (x y : Addr) (H H' : Hp) : Prop := ∀ b o, b ≠ x → b ≠ y → H b = some o → H' b = some o
theorem Ex2.refl {x y : Addr} {H : Hp} : Ex2 x y H H := fun _ _ _ _ h => h
theorem Ex2.trans {x y : Addr} {H H1 H2 : Hp} (a : Ex2 x y H H1) (b : Ex2 x y H1 H2) : Ex2 x y H H2 := fun c o n m h => b c o n m (a c o n m h)
theorem Ex2.same {x y : Addr} {H H' : Hp} (s : Same H H') : Ex2 x y H H' := fun b o _ _ h => s b o h
theorem Ex2.upd1 {x y : Addr} {H H' : Hp} {o : HO} (s : Ex2 x y H H') : Ex2 x y H (upd H' x o) := fun b p n m h => by
  rw [upd_ne n]
  exact s b p n m h
theorem Ex2.upd2 {x y : Addr} {H H' : Hp} {o : HO} (s : Ex2 x y H H') : Ex2 x y H (upd H' y o) := fun b p n m h => by
  rw [upd_ne m]
  exact s b p n m h
/-- a ChangeLog lies at x, its list at L -/
structure LogAt (K : Frag) (H : Hp) (x L : Addr) (b f : Int) (as : List Addr) (rs : List LRow) : Prop where
  ins : ∃ dx, H x = some (.ins (ga K "ChangeLog") dx [("own_bound", .int b), ("own_floor", .int f), ("own_changes", .ref L)])
  lst : H L = some (.lst (as.map V.ref))
  rows : RowsAt H as rs
  ok : RowsOk rs
  few : rs.length ≤ 100000
section
variable {K : Frag} {H H' : Hp} {x L : Addr} {b f : Int} {as : List Addr} {rs : List LRow}
theorem LogAt.same (h : LogAt K H x L b f as rs) (s : Same H H') : LogAt K H' x L b f as rs := by
  obtain ⟨⟨dx, h1⟩, h2, h3, h4, h5⟩ := h
  exact ⟨⟨dx, s _ _ h1⟩, s _ _ h2, h3.tk (.same s), h4, h5⟩
theorem LogAt.ne (h : LogAt K H x L b f as rs) : x ≠ L := by
  obtain ⟨⟨dx, h1⟩, h2, _, _, _⟩ := h
  exact ne_of h1 h2 (fun z => by cases z)
/-- the moment of the last row, or the floor -/
def lastOf (f : Int) (rs : List LRow) : Int := match rs.getLast? with
  | some r => r.1
  | none => f
end
theorem isList {K : Frag} {H : Hp} {L : Addr} {xs : List V} (h : H L = some (.lst xs)) : tyV K "list" (.ref L) H := .inl ⟨rfl, xs, SqL.of h⟩
end Ah

/-! states: a pool, tables, odd values -/
namespace Ah
open PySem PySem.Spec PyProof.Rows L2 He LamX
section
variable {T : List (Addr × Str)} {K : Frag} {H0 H H' : Hp} {pl r : Addr}
/-- tables stay where their objects stay -/
theorem tabs_keep (t : Tabs T H) (h : ∀ b o, H b = some o → ((∃ ps, o = .tbl ps) ∨ ∃ q, o = CodeO b q) → H' b = some o) : Tabs T H' := by
  intro p hp
  obtain ⟨ps, h1, h2, h3⟩ := t p hp
  refine ⟨ps, h _ _ h1 (.inl ⟨ps, rfl⟩), h2, fun pos cv hc => ?_⟩
  obtain ⟨c, e1, e2⟩ := h3 pos cv hc
  exact ⟨c, e1, h _ _ e2 (.inr ⟨_, rfl⟩)⟩
theorem tabs_ex {a : Addr} {o : HO} (t : Tabs T H) (x : Ex a H H') (ha : H a = some o) (n1 : ∀ ps, o ≠ .tbl ps) (n2 : ∀ q, o ≠ CodeO a q) : Tabs T H' :=
  tabs_keep t fun b o' hb hk => x b o' (fun z => by
    subst z
    rw [ha] at hb
    cases hb
    rcases hk with ⟨ps, e⟩ | ⟨q, e⟩
    · exact n1 ps e
    · exact n2 q e) hb
theorem tabs_ex2 {a c : Addr} {o o2 : HO} (t : Tabs T H) (x : Ex2 a c H H') (ha : H a = some o) (n1 : ∀ ps, o ≠ .tbl ps) (n2 : ∀ q, o ≠ CodeO a q) (hc : H c = some o2) (m1 : ∀ ps, o2 ≠ .tbl ps) (m2 : ∀ q, o2 ≠ CodeO c q) : Tabs T H' :=
  tabs_keep t fun b o' hb hk => x b o' (fun z => by
    subst z
    rw [ha] at hb
    cases hb
    rcases hk with ⟨ps, e⟩ | ⟨q, e⟩
    · exact n1 ps e
    · exact n2 q e) (fun z => by
    subst z
    rw [hc] at hb
    cases hb
    rcases hk with ⟨ps, e⟩ | ⟨q, e⟩
    · exact m1 ps e
    · exact m2 q e) hb
/-- what a def that draws and makes lambdas keeps -/
structure Sb (T : List (Addr × Str)) (pl : Addr) (H0 H : Hp) : Prop where
  nx : Nx pl H0 H
  pool : PoolAt H pl
  tabs : Tabs T H
theorem Sb.same (b : Sb T pl H0 H) (s : Same H H') : Sb T pl H0 H' := ⟨b.nx.trans (.same s), b.pool.same s, b.tabs.ext s⟩
theorem Sb.ex (b : Sb T pl H0 H) (x : Ex pl H H') (hp : PoolAt H' pl) : Sb T pl H0 H' := by
  obtain ⟨p, q, h⟩ := b.pool
  exact ⟨b.nx.trans (.ex x), hp, tabs_ex b.tabs x h (fun ps z => by cases z) (fun q z => by unfold CodeO at z; cases z)⟩
theorem Sb.lam (b : Sb T pl H0 H) (e : ExtN H H') (t : Tabs T H') : Sb T pl H0 H' := by
  obtain ⟨p, q, h⟩ := b.pool
  exact ⟨b.nx.trans (.ext e), ⟨p, q, e _ _ h (fun ps z => by cases z)⟩, t⟩
theorem Sb.ne (b : Sb T pl H0 H) (h : H r = none) : r ≠ pl := b.pool.ne h
theorem LogAt.nx {x L : Addr} {b f : Int} {as : List Addr} {rs : List LRow} (h : LogAt K H x L b f as rs) (p : PoolAt H pl) (n : L ≠ pl) (y : Nx pl H H') : LogAt K H' x L b f as rs := by
  obtain ⟨i, j, e⟩ := p
  obtain ⟨⟨dx, h1⟩, h2, h3, h4, h5⟩ := h
  refine ⟨⟨dx, y _ _ (ne_of h1 e (fun z => by cases z)) h1 (fun ps z => by cases z)⟩, y _ _ n h2 (fun ps z => by cases z), ?_, h4, h5⟩
  exact h3.tk fun c xs hc => y _ _ (ne_of hc e (fun z => by cases z)) hc (fun ps z => by cases z)
theorem LogAt.ext {x L : Addr} {b f : Int} {as : List Addr} {rs : List LRow} (h : LogAt K H x L b f as rs) (y : ExtN H H') : LogAt K H' x L b f as rs := by
  obtain ⟨⟨dx, h1⟩, h2, h3, h4, h5⟩ := h
  exact ⟨⟨dx, y _ _ h1 (fun ps z => by cases z)⟩, y _ _ h2 (fun ps z => by cases z), h3.tk (.ext y), h4, h5⟩
/-- an odd value: what it is, how it is shown -/
structure OdV (K : Frag) (pl : Addr) (H : Hp) (v : V) (k : Kn) (z : Str) : Prop where
  box : ∀ H', Nx pl H H' → Is K H' v k ∧ Rp K H' v z
  ok : PyData.strOk z = true
theorem OdV.nx {v : V} {k : Kn} {z : Str} (h : OdV K pl H v k z) (x : Nx pl H H') : OdV K pl H' v k z := ⟨fun H2 y => h.box H2 (x.trans y), h.ok⟩
/-- can be shown, in few signs -/
def PyData.plain (d : PyData) : Bool := d.showable && !d.hasDict && decide (d.depth ≤ 64) && decide (d.shown.length ≤ 1000) && PyData.strOk d.shown
theorem plain_rp {v : V} {d : PyData} (h : PyData.plain d = true) (hd : Dp K H v d) : Rp K H v d.shown := by
  unfold PyData.plain at h
  simp only [Bool.and_eq_true, decide_eq_true_eq, Bool.not_eq_true'] at h
  obtain ⟨⟨⟨⟨h1, h2⟩, h3⟩, h4⟩, h5⟩ := h
  exact .data d hd h1 h2 h3 (by rw [sizeLine_eq]; omega)
theorem plain_ok {d : PyData} (h : PyData.plain d = true) : PyData.strOk d.shown = true := by
  unfold PyData.plain at h
  simp only [Bool.and_eq_true, decide_eq_true_eq, Bool.not_eq_true'] at h
  exact h.2
theorem OdV.of {v : V} {k : Kn} (d : PyData) (h : PyData.plain d = true) (b : ∀ H', Nx pl H H' → Is K H' v k ∧ Dp K H' v d) : OdV K pl H v k d.shown := ⟨fun H' y => ⟨(b H' y).1, plain_rp h (b H' y).2⟩, plain_ok h⟩
theorem plain_small : ∀ n : Nat, n < 200 → PyData.plain (.int ((n : Int) - 10)) = true := by decide +kernel
theorem plain_int {i : Int} (h0 : -10 ≤ i) (h1 : i ≤ 180) : PyData.plain (.int i) = true := by
  have h := plain_small (i + 10).toNat (by omega)
  rwa [show (((i + 10).toNat : Nat) : Int) - 10 = i by omega] at h
theorem shapedTxt {z y : Str} (hz : PyData.strOk z = true) (hy : PyData.strOk y = true) : SeqAt.shaped (.list [.str z, .bool true, .str y]) = true := by
  refine Bool.and_eq_true_iff.mpr ⟨?_, decide_eq_true (show max 0 (max 0 (max 0 0)) + 1 ≤ 64 by decide)⟩
  show (PyData.strOk z && (true && (PyData.strOk y && true))) = true
  rw [hz, hy]
  rfl
theorem shapedInt {z : Str} {n : Int} (hz : PyData.strOk z = true) : SeqAt.shaped (.list [.str z, .bool true, .int n]) = true := by
  refine Bool.and_eq_true_iff.mpr ⟨?_, decide_eq_true (show max 0 (max 0 (max 0 0)) + 1 ≤ 64 by decide)⟩
  show (PyData.strOk z && (true && (true && true))) = true
  rw [hz]
  rfl
/-- the answer is the one that is due: != tells False -/
theorem neTxt {a b : Addr} {x z : Str} {Q : VK} (hx : PyData.strOk x = true) (hz : PyData.strOk z = true) (h1 : H a = some (.lst [.str x, .bl true, .str z])) (h2 : H b = some (.lst [.str x, .bl true, .str z])) (q : Q (.bl false) H) : rNeD K (.ref a) (.ref b) H Q :=
  neD_same (.list [.str x, .bool true, .str z]) (.lst (SqL.of h1) (.cons (.str _) (.cons (.bl _) (.cons (.str _) .nil)))) (.lst (SqL.of h2) (.cons (.str _) (.cons (.bl _) (.cons (.str _) .nil)))) (shapedTxt hx hz) q
theorem neInt {a b : Addr} {x : Str} {n : Int} {Q : VK} (hx : PyData.strOk x = true) (h1 : H a = some (.lst [.str x, .bl true, .int n])) (h2 : H b = some (.lst [.str x, .bl true, .int n])) (q : Q (.bl false) H) : rNeD K (.ref a) (.ref b) H Q :=
  neD_same (.list [.str x, .bool true, .int n]) (.lst (SqL.of h1) (.cons (.str _) (.cons (.bl _) (.cons (.int _) .nil)))) (.lst (SqL.of h2) (.cons (.str _) (.cons (.bl _) (.cons (.int _) .nil)))) (shapedInt hx) q
theorem eqTxt {a b : Addr} {x z : Str} {Q : VK} (hx : PyData.strOk x = true) (hz : PyData.strOk z = true) (h1 : H a = some (.lst [.str x, .bl true, .str z])) (h2 : H b = some (.lst [.str x, .bl true, .str z])) (q : Q (.bl true) H) : rEqD K (.ref a) (.ref b) H Q :=
  eqD_same (.list [.str x, .bool true, .str z]) (.lst (SqL.of h1) (.cons (.str _) (.cons (.bl _) (.cons (.str _) .nil)))) (.lst (SqL.of h2) (.cons (.str _) (.cons (.bl _) (.cons (.str _) .nil)))) (shapedTxt hx hz) q
end
end Ah

/-! own __getitem__, __setitem__, __contains__; dict(d) -/
namespace Ah
open PySem PySem.Spec PySem.W PySem.Calls PyProof.Rows L2 He
section
variable {X : Cx} {k j : Nat} {f C : Addr} {sp : Sp} {E : XK} {a b : Expr} {ta tb : TE} {pos : Pos}
/-- x[y], x an instance of C with its own __getitem__ -/
def rGetO (C : Addr) (sp : Sp) (E : XK) : R2 := fun x y H Q => ∃ a dx fs, x = .ref a ∧ H a = some (.ins C dx fs) ∧ sp [x, y] H Q E
theorem pe_ixO (hm : Meth X.K C "__getitem__" f) (hi : PySem.W.fnIn X.K f = true) (G : FnB X.prog X.w X.K X.mg X.base k f sp) (hr : Rm j X.A) (hx : Passes (L2.CX X.prog X.w) X E) (ha : PE X a ta) (hb : PE X b tb) (hk : k + 1 ≤ j := by decide)
    (hsl : ∀ v u, subscripted b true v u = runValue (.builtin "lifetime.subscript" ⟨[v, u], []⟩) := by intro _ _; rfl) : PE X (.Subscript a b pos) (tOp (rGetO C sp E) ta tb) := by
  refine ⟨fun pins s σ H Q I h => ?_⟩
  refine Subscript_ (binT ha hb I h fun v u s2 x y H2 I2 rx ry q => ?_)
  obtain ⟨p, dx, fs, rfl, hp, q⟩ := q
  cases (show v = Value.ref p from rx)
  obtain ⟨mA, O, _⟩ := ins_get I2.hok hp
  obtain ⟨od, J, _⟩ := O.look
  obtain ⟨m, Fr⟩ := I2.fr
  have hr1 : Rm (k + 1) X.A := hr.mono hk
  exact PySem.W.sub_K Fr I2.ok.mod.kin J hm.at_ hi hm.fn (wpAny_call (runB (us := [.ref p, u]) (vs := [.ref p, y]) G hr1.in1 I2.env0.in1 hx I2 (.cons rfl (.cons ry .nil)) q)) (hsl _ _)
/-- x[y] = v, x an instance of C with its own __setitem__ -/
def rSetO (C : Addr) (sp : Sp) (E : XK) : TSet := fun o i v H Q => ∃ a dx fs, o = .ref a ∧ H a = some (.ins C dx fs) ∧ sp [o, i, v] H (fun _ H' => Q H') E
theorem set_own (hm : Meth X.K C "__setitem__" f) (hq : PySem.W.noSeq X.K C = true) (G : FnB X.prog X.w X.K X.mg X.base k f sp) (hr : Rm j X.A) (hx : Passes (L2.CX X.prog X.w) X E) (hk : k ≤ j := by decide) : PSet X (rSetO C sp E) := by
  intro pins s σ H o i v ov iv u Q I ro ri rv h
  obtain ⟨p, dx, fs, rfl, hp, q⟩ := h
  cases (show ov = Value.ref p from ro)
  obtain ⟨mA, O, _⟩ := ins_get I.hok hp
  obtain ⟨od, J, _⟩ := O.look
  unfold setItem sequenceKey
  refine wpAny_holding (wpAny_bind (wpAny_bind (J.type.here ?_)))
  refine wpAny_bind ((PySem.W.anyM_none I.kIn hq).here ?_)
  rw [if_pos (show (!false) = true from rfl)]
  refine wpAny_pure (wpAny_bind (PySem.W.special_fn I.kIn J hm.at_ (beq_iff_eq.mp hm.fn) (wpAny_mono (wpAny_call (runB (us := [.ref p, iv, u]) (vs := [.ref p, i, v]) G (hr.mono hk) I.env0 hx I (.cons rfl (.cons ri (.cons rv .nil))) q)) (fun w s' z => ?_) fun _ _ z => z)))
  obtain ⟨z', H', I', rz, qz⟩ := z
  exact wpAny_pure ⟨H', I', qz⟩
/-- y in x, x an instance of C with its own __contains__ that answers a bool -/
def rInO (C : Addr) (sp : Sp) (E : XK) : R2 := fun y x H Q => ∃ a dx fs, x = .ref a ∧ H a = some (.ins C dx fs) ∧ sp [x, y] H (fun z H' => ∃ b, z = .bl b ∧ Q (.bl b) H') E
def rNotInO (C : Addr) (sp : Sp) (E : XK) : R2 := fun y x H Q => ∃ a dx fs, x = .ref a ∧ H a = some (.ins C dx fs) ∧ sp [x, y] H (fun z H' => ∃ b, z = .bl b ∧ Q (.bl (!b)) H') E
theorem op_inO (hm : Meth X.K C "__contains__" f) (G : FnB X.prog X.w X.K X.mg X.base k f sp) (hr : Rm j X.A) (hx : Passes (L2.CX X.prog X.w) X E) (hk : k ≤ j := by decide) : OpR X (compareOp .In) (rInO C sp E) := by
  intro pins s σ H y x u v Q I ry rx h
  obtain ⟨p, dx, fs, rfl, hp, q⟩ := h
  cases (show v = Value.ref p from rx)
  obtain ⟨mA, O, _⟩ := ins_get I.hok hp
  obtain ⟨od, J, _⟩ := O.look
  obtain ⟨m, Fr⟩ := I.fr
  refine PySem.W.in_K Fr I.ok.mod.kin J hm.at_ hm.fn (wpAny_mono (wpAny_call (runB (us := [.ref p, u]) (vs := [.ref p, y]) G (hr.mono hk) I.env0 hx I (.cons rfl (.cons ry .nil)) q)) (fun w s' z => ?_) fun _ _ z => z)
  obtain ⟨z', H', I', rz, b, eb, qz⟩ := z
  subst eb
  cases (show w = Value.bool b from rz)
  exact wpAny_truthy_bool ⟨.bl b, H', I', rfl, qz⟩
theorem op_notInO (hm : Meth X.K C "__contains__" f) (G : FnB X.prog X.w X.K X.mg X.base k f sp) (hr : Rm j X.A) (hx : Passes (L2.CX X.prog X.w) X E) (hk : k ≤ j := by decide) : OpR X (compareOp .NotIn) (rNotInO C sp E) := by
  intro pins s σ H y x u v Q I ry rx h
  obtain ⟨p, dx, fs, rfl, hp, q⟩ := h
  cases (show v = Value.ref p from rx)
  obtain ⟨mA, O, _⟩ := ins_get I.hok hp
  obtain ⟨od, J, _⟩ := O.look
  obtain ⟨m, Fr⟩ := I.fr
  refine PySem.W.notIn_K Fr I.ok.mod.kin J hm.at_ hm.fn (wpAny_mono (wpAny_call (runB (us := [.ref p, u]) (vs := [.ref p, y]) G (hr.mono hk) I.env0 hx I (.cons rfl (.cons ry .nil)) q)) (fun w s' z => ?_) fun _ _ z => z)
  obtain ⟨z', H', I', rz, b, eb, qz⟩ := z
  subst eb
  cases (show w = Value.bool b from rz)
  exact wpAny_truthy_bool ⟨.bl (!b), H', I', rfl, qz⟩
/-- dict(d) -/
def rDictC : List V → Hp → VK → Prop := fun xs H Q => ∃ (a : Addr) (kvs : List (Key × V)), xs = [.ref a] ∧ H a = some (.dK kvs) ∧ ∀ p, H p = none → Q (.ref p) (upd H p (.dK kvs))
theorem call_dictC : CallR X (.type "dict") rDictC := by
  intro pins s σ H xs us Q I r h
  obtain ⟨p, kvs, rfl, hp, q⟩ := h
  obtain ⟨u, rfl, ru⟩ := r.one
  cases (show u = Value.ref p from ru)
  exact d_copyOf I (.inl hp) fun p' s' hn I' => ⟨.ref p', _, I', rfl, q p' hn⟩
end
end Ah

/-! sorted of points -/
namespace Ah
open PySem PySem.Spec PySem.Calls PyProof.Rows L2 He SrtO
def IsPtO (h : Heap) (v : Value) (p : Pt) : Prop := ∃ a o t u n, v = .ref a ∧ h.get? a = some o ∧ o.cls = .type "tuple" ∧ o.data = .seq #[.int p.1 t, .str p.2 u] n
theorem IsPtO.keeps {h h' : Heap} {v : Value} {p : Pt} (x : IsPtO h v p) (k : ∀ b o, h.get? b = some o → o.cls = .type "tuple" → h'.get? b = some o) : IsPtO h' v p := by
  obtain ⟨a, o, t, u, n, e, ho, hc, hd⟩ := x
  exact ⟨a, o, t, u, n, e, k _ _ ho hc, hc, hd⟩
theorem ptLt_le {x y z : Pt} (h1 : ptLt y x = false) (h2 : ptLt z y = false) : ptLt z x = false := by
  cases e : ptLt z x with
  | false => rfl
  | true =>
    cases e2 : ptLt x y with
    | true =>
      rw [ptLt_trans e e2] at h2
      cases h2
    | false =>
      have := ptLt_total e2 h1
      subst this
      rw [e] at h2
      cases h2
theorem swo_pt {α : Type} (k : α → Pt) : Swo fun v u => ptLt (k v) (k u) := ⟨fun x y h => ptLt_asymm h, fun x y z h1 h2 => ptLt_le h1 h2⟩
section
variable {prog : Program} {w : World} {A : Around} {E : Value → Shared → Prop} {s : Shared}
theorem firstsP {h : Heap} {k : Value → Pt} : ∀ {vs : List Value}, (∀ v ∈ vs, IsPtO h v (k v)) → ∃ fs : List Value, PySem.W.KatTups h vs fs ∧ fs.length = vs.length ∧ ∀ f ∈ fs, ∃ x t, f = Value.int x t
  | [], _ => ⟨[], PySem.W.KatTups.nil, rfl, fun _ hm => by simp at hm⟩
  | v :: vs, hp => by
    obtain ⟨fs, h1, h2, h3⟩ := firstsP (vs := vs) fun v' hm => hp v' (List.mem_cons_of_mem _ hm)
    obtain ⟨a, o, t, u, n, e, ho, hc, hd⟩ := hp v (List.mem_cons_self ..)
    rw [e]
    refine ⟨.int (k v).1 t :: fs, PySem.W.KatTups.cons ho hc hd rfl h1, by rw [List.length_cons, List.length_cons, h2], fun f hm => ?_⟩
    rcases List.mem_cons.mp hm with rfl | hm
    · exact ⟨_, t, rfl⟩
    · exact h3 f hm
theorem pt_cmp {vs : List Value} {k : Value → Pt} (hp : ∀ v ∈ vs, IsPtO s.heap v (k v)) : Cmp prog w A s (tuples' true) (fun p => p.1 ∈ vs) (lt2 fun v u => ptLt (k v) (k u)) := by
  intro p q hm hm'
  have h1 := hp _ hm
  have h2 := hp _ hm'
  show wpAny (model prog w) A (keyLt' (tuples' true) p.1 q.1) (fun r s' => s' = s ∧ r = ptLt (k p.1) (k q.1)) (fun _ _ => False) s
  rw [ptLt_eq]
  obtain ⟨a, o, t, u, n, e, ho, hc, hd⟩ := h1
  obtain ⟨a', o', t', u', n', e', ho', hc', hd'⟩ := h2
  generalize (k p.1).1 = x at hd ⊢
  generalize (k p.1).2 = y at hd ⊢
  generalize (k q.1).1 = x' at hd' ⊢
  generalize (k q.1).2 = y' at hd' ⊢
  rw [e, e']
  refine PySem.W.kat_lt ho hd ho' hd' ?_
  show PySem.W.KatLex prog w A true (decide (2 < 2)) _ [(.int x t, .int x' t'), (.str y u, .str y' u')] 0 s
  refine PySem.W.kat_cons (SeqAt.EqAt.int_int x t x' t' prog w _ _ ?_)
  refine PySem.W.kat_go (fun e1 => ?_) (fun e1 => ?_)
  · have ex : x = x' := by simpa using e1
    refine PySem.W.kat_yes (PySem.W.kat_cons (SeqAt.EqAt.str_str y u y' u' prog w _ _ ?_))
    refine PySem.W.kat_go (fun e2 => ?_) (fun e2 => ?_)
    · have ey : y = y' := by simpa using e2
      refine PySem.W.kat_yes (PySem.W.kat_nil ⟨rfl, ?_⟩)
      subst ex ey
      simp
    · refine PySem.W.kat_no (PySem.W.kat_one _ _ (PyProof.Rows.lt_str ?_))
      refine (show s = s ∧ decide (y.cps.toList < y'.cps.toList) = _ from ⟨rfl, ?_⟩)
      subst ex
      simp
  · have ex : ¬ x = x' := by simpa using e1
    refine PySem.W.kat_no (oneLt_int ⟨rfl, ?_⟩)
    simp [ex]
theorem pts_sortable {a : Addr} {vs : List Value} {k : Value → Pt} (h0 : 0 < vs.length) (hp : ∀ v ∈ vs, IsPtO s.heap v (k v)) (ha : ∀ o, s.heap.get? a = some o → o.cls ≠ .type "tuple") : SortableO prog w A s a vs fun v u => ptLt (k v) (k u) := by
  intro h' keep
  have hp' : ∀ v ∈ vs, IsPtO h' v (k v) := fun v hm => (hp v hm).keeps fun b o e c => keep b o (fun z => by subst z; exact ha o e c) e
  obtain ⟨fs, h1, h2, h3⟩ := firstsP hp'
  refine ⟨tuples' true, fun Q E hq => ?_, pt_cmp hp'⟩
  refine PySem.W.kat_kind (T := .type "int") h1 (by omega) (fun f hm => ?_) (by rfl) ?_
  · obtain ⟨x, t, rfl⟩ := h3 f hm
    exact PySem.W.Looks.now
  · have e : (Value.type "int" != Value.type "tuple") = true := by first | decide +kernel | rfl | decide
    rw [e]
    exact hq
theorem sorted_pts {l : Addr} {vs : List Value} {k : Value → Pt} {Q : Value → Shared → Prop} (hl : s.heap.IsList l vs.toArray) (hz : vs.length ≤ sizeLine) (hp : ∀ v ∈ vs, IsPtO s.heap v (k v))
    (h : ∀ (h' : Heap) (d : Addr) (out : List Value), Srtd (fun v u => ptLt (k v) (k u)) out → Stb (fun v u => ptLt (k v) (k u)) out vs → (∀ b o, s.heap.get? b = some o → h'.get? b = some o) → s.heap.objs.size ≤ d → (∃ n, h'.get? d = some (seqObj "list" out.toArray n)) → Q (.ref d) { s with heap := h' }) :
    wpAny (model prog w) A (call (.builtin "sorted") [.ref l]) Q E s := by
  refine sorted_ord (swo_pt k) hl hz (fun h2 h₁ a ha kk => ?_) fun out hs hb => ?_
  · refine pts_sortable (s := { s with heap := h₁ }) (by omega) (fun v hm => (hp v hm).keeps fun b o e _ => (kk b o e).2) fun o e => ?_
    have e' : some o = some (seqObj "list" vs.toArray 0) := e.symm.trans ha
    cases e'
    intro c
    exact absurd (Value.type.inj c) (by decide)
  · exact h _ _ out hs hb (fun b o e => sortedAll_old e) (Nat.le_succ _) (sortedAll_at s.heap vs out.toArray)
end
/-- points lie at these addresses -/
inductive PtsAt (H : Hp) : List Addr → List Pt → Prop
  | nil : PtsAt H [] []
  | cons {a : Addr} {p : Pt} {as : List Addr} {ps : List Pt} (h : PtAt H a p) (t : PtsAt H as ps) : PtsAt H (a :: as) (p :: ps)
theorem PtsAt.tk {H H' : Hp} {as : List Addr} {ps : List Pt} (h : PtsAt H as ps) (t : Tk H H') : PtsAt H' as ps := by
  induction h with
  | nil => exact .nil
  | cons h _ ih => exact .cons (t _ _ h) ih
theorem PtsAt.len {H : Hp} {as : List Addr} {ps : List Pt} (h : PtsAt H as ps) : as.length = ps.length := by
  induction h with
  | nil => rfl
  | cons _ _ ih => simp [ih]
theorem PtsAt.at {H : Hp} {as : List Addr} {ps : List Pt} (h : PtsAt H as ps) {i : Nat} {a : Addr} (e : as[i]? = some a) : ∃ p, ps[i]? = some p ∧ PtAt H a p := by
  induction h generalizing i with
  | nil => simp at e
  | cons h t ih =>
    cases i with
    | zero =>
      simp at e
      subst e
      exact ⟨_, rfl, h⟩
    | succ i => exact ih (by simpa using e)
theorem PtsAt.app {H : Hp} {as bs : List Addr} {ps qs : List Pt} (h : PtsAt H as ps) (g : PtsAt H bs qs) : PtsAt H (as ++ bs) (ps ++ qs) := by
  induction h with
  | nil => exact g
  | cons h _ ih => exact .cons h ih
/-- the point at an address -/
noncomputable def ptOf (H : Hp) (a : Addr) : Pt := match H a with
  | some (.tup [.int i, .str z]) => (i, z)
  | _ => (0, Str.empty)
theorem ptOf_at {H : Hp} {a : Addr} {p : Pt} (h : PtAt H a p) : ptOf H a = p := by
  unfold ptOf
  rw [show H a = some (.tup [.int p.1, .str p.2]) from h]
theorem PtsAt.map {H : Hp} {as : List Addr} {ps : List Pt} (h : PtsAt H as ps) : as.map (ptOf H) = ps := by
  induction h with
  | nil => rfl
  | cons h _ ih => rw [List.map_cons, ih, ptOf_at h]
theorem PtsAt.of_mem {H : Hp} {as : List Addr} {ps : List Pt} (h : PtsAt H as ps) : ∀ a ∈ as, PtAt H a (ptOf H a) := by
  induction h with
  | nil => exact fun a ha => by cases ha
  | cons h _ ih =>
    intro a ha
    rcases List.mem_cons.mp ha with rfl | ha
    · rw [ptOf_at h]
      exact h
    · exact ih a ha
theorem ptsAt_map {H : Hp} : ∀ {as : List Addr}, (∀ a ∈ as, PtAt H a (ptOf H a)) → PtsAt H as (as.map (ptOf H))
  | [], _ => .nil
  | a :: as, h => .cons (h a (List.mem_cons_self)) (ptsAt_map fun b hb => h b (List.mem_cons_of_mem _ hb))
/-- sorted: no later point before an earlier one -/
def PtOrd (ps : List Pt) : Prop := ps.Pairwise fun a b => ptLt b a = false
theorem ptOrd_uniq : ∀ {l m : List Pt}, PtOrd l → PtOrd m → l.Perm m → l = m
  | [], m, _, _, h => (List.Perm.eq_nil h.symm).symm
  | x :: l, [], _, _, h => absurd h.length_eq (by simp)
  | x :: l, y :: m, hl, hm, h => by
    have a1 := List.pairwise_cons.mp hl
    have a2 := List.pairwise_cons.mp hm
    have e : x = y := by
      rcases List.mem_cons.mp (h.mem_iff.mp (List.mem_cons_self (a := x) (l := l))) with e | hx
      · exact e
      · rcases List.mem_cons.mp (h.mem_iff.mpr (List.mem_cons_self (a := y) (l := m))) with e | hy
        · exact e.symm
        · exact ptLt_total (a2.1 x hx) (a1.1 y hy)
    subst e
    rw [ptOrd_uniq a1.2 a2.2 h.cons_inv]
/-- sorted(l), l a list of points -/
def rSortPt (K : Frag) : List V → Hp → VK → Prop := fun vs H Q => ∃ (l : Addr) (as : List Addr) (ps : List Pt), vs = [.ref l] ∧ SqL K H l (as.map V.ref) ∧ PtsAt H as ps ∧
  ∀ r bs qs, H r = none → PtsAt H bs qs → qs.Perm ps → PtOrd qs → Q (.ref r) (upd H r (.lst (bs.map V.ref)))
theorem map_unref {l : List Value} {as : List Addr} (h : Vals (as.map V.ref) l) : l = as.map Value.ref := by
  induction as generalizing l with
  | nil => cases h; rfl
  | cons a as ih =>
    cases h with
    | cons h t =>
      cases h
      rw [ih t]
      rfl
theorem vals_refs : ∀ as : List Addr, Vals (as.map V.ref) (as.map Value.ref)
  | [] => .nil
  | _ :: as => .cons rfl (vals_refs as)
section
variable {X : Cx}
theorem cr_sortPt : CallR X (.builtin "sorted") (rSortPt X.K) := by
  intro pins s σ H vs us Q I r h
  obtain ⟨l, as, ps, rfl, hs, hp, q⟩ := h
  obtain ⟨its, rv, hl, hz⟩ := I.list hs
  obtain ⟨u, rfl, ru⟩ := r.one
  obtain rfl : u = Value.ref l := ru
  have ei := map_unref rv
  subst ei
  let k : Value → Pt := fun v => match v with | .ref a => ptOf H a | _ => (0, Str.empty)
  have hk : ∀ v ∈ as.map Value.ref, IsPtO s.heap v (k v) := fun v hv => by
    obtain ⟨a, ha, rfl⟩ := List.mem_map.mp hv
    obtain ⟨_, its2, r2, o, ho, hc, n, hd⟩ := I.hok _ _ (hp.of_mem a ha)
    obtain ⟨u1, u2, rfl, ri, rj⟩ := vals2 r2
    obtain ⟨t1, rfl⟩ := ri
    obtain ⟨t2, rfl⟩ := rj
    exact ⟨a, o, t1, t2, n, rfl, ho, hc, hd⟩
  refine sorted_pts (k := k) hl.isList (by rw [← rv.length]; exact hz) hk fun h' d out h1 h2 kp hd hn => ?_
  obtain ⟨bs, rfl⟩ : ∃ bs : List Addr, out = bs.map Value.ref := by
    have hm : ∀ u ∈ out, ∃ a, u = Value.ref a := fun u hu => by
      obtain ⟨a, _, e⟩ := List.mem_map.mp (h2.perm.mem_iff.mp hu)
      exact ⟨a, e.symm⟩
    clear h1 h2 hn
    induction out with
    | nil => exact ⟨[], rfl⟩
    | cons u out ih =>
      obtain ⟨a, rfl⟩ := hm u (List.mem_cons_self)
      obtain ⟨bs, rfl⟩ := ih fun v hv => hm v (List.mem_cons_of_mem _ hv)
      exact ⟨a :: bs, rfl⟩
  have pm : bs.Perm as := by
    have z := h2.perm.map (fun v : Value => match v with | .ref a => a | _ => 0)
    rw [List.map_map, List.map_map] at z
    simpa [Function.comp_def] using z
  obtain ⟨n, hn⟩ := hn
  refine ⟨.ref d, upd H d (.lst (bs.map V.ref)), I.laid (t' := s.toks) kp hd ⟨?_, bs.map Value.ref, n, vals_refs bs, hn⟩, rfl, q d bs (bs.map (ptOf H)) (I.hok.fresh hd) (ptsAt_map fun a ha => hp.of_mem a (pm.mem_iff.mp ha)) ?_ ?_⟩
  · rw [List.length_map, pm.length_eq]
    rw [List.length_map] at hz
    exact hz
  · rw [← hp.map]
    exact pm.map _
  · have z : List.Pairwise _ (bs.map Value.ref) := h1
    rw [List.pairwise_map] at z
    unfold PtOrd
    rw [List.pairwise_map]
    exact z
end
end Ah

/-! max and min of two points -/
namespace Ah
open PySem PySem.Spec PySem.Calls PyProof.Rows L2 He

theorem max_loop_two {prog : Program} {w : World} {A : Around} {R : Result → Shared → Prop} {I : Addr} {fp wr : List Addr} {P : Nat → Value → Prop} {St : Nat → Heap → Prop} {h0 : Heap} {a b : Value} {c0 : Bool}
    (W : Walks prog w A.in1 I fp wr 2 P St) (S : Addr) (hSf : S ∉ fp) (hw0 : ∀ x ∈ wr, h0.get? x = none) (hS0 : h0.get? S = none) (hPa : ∀ v, P 0 v → v = a) (hPb : ∀ v, P 1 v → v = b)
    (hcmp : ∀ (s' : Shared) (Q' : Value → Shared → Prop) (E' : Value → Shared → Prop), (∀ x o, h0.get? x = some o → s'.heap.get? x = some o) → Q' (.bool c0) s' → wpAny (model prog w) A.in1 (richCompare .Gt b a) Q' E' s')
    {s : Shared} {c : Nat} (hk0 : ∀ x o, h0.get? x = some o → s.heap.get? x = some o) (hst : St 0 s.heap) (hS : s.heap.get? S = some { cls := .type "list", dict := none, data := .seq #[] c, slots := #[] })
    (hR : ∀ h' tk, (∀ x o, h0.get? x = some o → h'.get? x = some o) → R (.ok (.ret (if c0 then b else a))) { s with heap := h', toks := tk }) :
    codeAny (model prog w) A (.builtin "max.loop" ⟨[.ref I, .none, .ref S], []⟩) R s := by
  have hSw : S ∉ wr := fun h => hSf (W.sub _ h)
  have hname : (toString "max" ++ toString ".loop" : String) = "max.loop" := by decide
  -- the end
  have fin : ∀ (s2 : Shared) (v : Value) (c2 : Nat), (∀ x o, h0.get? x = some o → s2.heap.get? x = some o) → St 2 s2.heap → s2.heap.get? S = some { cls := .type "list", dict := none, data := .seq #[v, v] c2, slots := #[] } → (∀ h' tk, (∀ x o, h0.get? x = some o → h'.get? x = some o) → R (.ok (.ret v)) { s2 with heap := h', toks := tk }) → codeAny (model prog w) A (.builtin "max.loop" ⟨[.ref I, .none, .ref S], []⟩) R s2 := by
    intro s2 v c2 hk2 st2 hS2 hR2
    refine codeAny_builtin F.entry_max_loop ?_
    rw [Around.under_plainId F.plain_max_loop _]
    show wpAny _ A.in1 (seqItems? (.ref S) >>= _) _ _ s2
    refine wpAny_bind (wpAny_seqItems hS2 rfl ?_)
    show wpAny _ A.in1 (tryCatch (pyNext (.ref I)) _ >>= _) _ _ s2
    refine wpAny_bind (wpAny_tryCatch (W.done s2 _ _ st2 fun h' tk hk' => ?_))
    have hS' := hk' S _ hSw hS2
    show wpAny _ A.in1 (updateSeq S (fun _ => #[]) >>= _) _ _ _
    refine wpAny_bind ?_
    refine wpAny_updateSeq hS' rfl (wpAny_bind (wpAny_letGo (wpAny_pure ?_)))
    refine hR2 _ tk fun x o e => (Heap.get?_update_other _ _ (fun z : S = x => by rw [← z, hS0] at e; cases e)).trans (hk' x o (fun z => by rw [hw0 x z] at e; cases e) (hk2 x o e))
  refine codeAny_builtin F.entry_max_loop ?_
  rw [Around.under_plainId F.plain_max_loop _]
  show wpAny _ A.in1 (seqItems? (.ref S) >>= _) _ _ s
  refine wpAny_bind (wpAny_seqItems hS rfl ?_)
  show wpAny _ A.in1 (tryCatch (pyNext (.ref I)) _ >>= _) _ _ s
  refine wpAny_bind (wpAny_tryCatch (W.item 0 s _ _ (by decide) hst fun v h1 tk1 hP st1 hk1 => ?_))
  obtain rfl := hPa v hP
  have hS1 := hk1 S _ hSw hS
  show wpAny _ A.in1 (updateSeq S (fun _ => #[v, v]) >>= _) _ _ _
  refine wpAny_bind ?_
  refine wpAny_updateSeq hS1 rfl ?_
  rw [hname]
  refine wpAny_pure ⟨plainId_quiet F.plain_max_loop _, ?_⟩
  have hkA : ∀ x o, h0.get? x = some o → h1.get? x = some o := fun x o e => hk1 x o (fun z => by rw [hw0 x z] at e; cases e) (hk0 x o e)
  have hSA := Heap.get?_update_self (h := h1) (Obj.mapSeq (fun _ => #[v, v])) hS1 rfl
  have stA : St 1 (h1.update S (Obj.mapSeq (fun _ => #[v, v]))) := W.frame _ _ _ st1 fun x hx o e => (Heap.get?_update_other _ _ (fun h : S = x => hSf (by rw [h]; exact hx))).trans e
  have hkB : ∀ x o, h0.get? x = some o → (h1.update S (Obj.mapSeq (fun _ => #[v, v]))).get? x = some o := fun x o e => (Heap.get?_update_other _ _ (fun z : S = x => by rw [← z, hS0] at e; cases e)).trans (hkA x o e)
  generalize hgB : h1.update S (Obj.mapSeq (fun _ => #[v, v])) = hB at hSA stA hkB
  -- the second
  refine codeAny_builtin F.entry_max_loop ?_
  rw [Around.under_plainId F.plain_max_loop _]
  show wpAny _ A.in1 (seqItems? (.ref S) >>= _) _ _ _
  refine wpAny_bind (wpAny_seqItems (by first | exact hSA | (rw [← hgB] at hSA; exact hSA)) rfl ?_)
  show wpAny _ A.in1 (tryCatch (pyNext (.ref I)) _ >>= _) _ _ _
  refine wpAny_bind (wpAny_tryCatch (W.item 1 _ _ _ (by decide) (by first | exact stA | (rw [← hgB] at stA; exact stA)) fun u h2 tk2 hP2 st2 hk2 => ?_))
  obtain rfl := hPb u hP2
  have hS2 := hk2 S _ hSw (by first | exact hSA | (rw [← hgB] at hSA; exact hSA))
  have hkC : ∀ x o, h0.get? x = some o → h2.get? x = some o := fun x o e => hk2 x o (fun z => by rw [hw0 x z] at e; cases e) (by first | exact hkB x o e | (rw [← hgB] at hkB; exact hkB x o e))
  show wpAny _ A.in1 (tryCatch (holding [u, u] (richCompare .Gt u v >>= _)) _ >>= _) _ _ _
  refine wpAny_bind (wpAny_tryCatch (wpAny_holding (wpAny_bind (hcmp _ _ _ hkC ?_))))
  refine wpAny_bind (wpAny_holding (wpAny_truthy_bool ?_))
  refine wpAny_bind (wpAny_letGo (wpAny_pure ?_))
  cases c0 with
  | true =>
    simp only [if_true]
    refine wpAny_bind ?_
    refine wpAny_updateSeq hS2 rfl (wpAny_bind (wpAny_letGo ?_))
    rw [hname]
    refine wpAny_pure ⟨plainId_quiet F.plain_max_loop _, fin _ u _ (fun x o e => (Heap.get?_update_other _ _ (fun z : S = x => by rw [← z, hS0] at e; cases e)).trans (hkC x o e)) (W.frame _ _ _ st2 fun x hx o e => (Heap.get?_update_other _ _ (fun h : S = x => hSf (by rw [h]; exact hx))).trans e) (Heap.get?_update_self _ hS2 rfl) fun h' tk hk => ?_⟩
    exact hR h' tk hk
  | false =>
    simp only [Bool.false_eq_true, if_false]
    refine wpAny_bind (wpAny_letGo ?_)
    rw [hname]
    refine wpAny_pure ⟨plainId_quiet F.plain_max_loop _, fin _ v _ hkC st2 hS2 fun h' tk hk => ?_⟩
    exact hR h' tk hk
theorem max_two_on {prog : Program} {w : World} {A : Around} {E : Value → Shared → Prop} {s : Shared} {a b : Value} {c0 : Bool} {Q : Value → Shared → Prop} (hh : A.handled = none)
    (hcmp : ∀ (s' : Shared) (Q' : Value → Shared → Prop) (E' : Value → Shared → Prop), (∀ x o, s.heap.get? x = some o → s'.heap.get? x = some o) → Q' (.bool c0) s' → wpAny (model prog w) A.in1 (richCompare .Gt b a) Q' E' s')
    (h : ∀ h' tk, (∀ x o, s.heap.get? x = some o → h'.get? x = some o) → Q (if c0 then b else a) { s with heap := h', toks := tk }) : wpAny (model prog w) A (call (.builtin "max") [a, b]) Q E s := by
  have hname : (toString "max" ++ toString ".loop" : String) = "max.loop" := by decide
  have hT : (s.heap.push { cls := .type "tuple", data := .seq #[a, b] }).IsTuple s.heap.objs.size #[a, b] := ⟨_, Heap.get?_push_size _ rfl, rfl, 0, rfl⟩
  have hsz : (s.heap.push { cls := .type "tuple", data := .seq #[a, b] }).objs.size = s.heap.objs.size + 1 := Heap.size_push ..
  refine call_function_tree F.kind_max F.plain_max F.entry_max (F.args_max2 _ _) ?_
  show wpAny _ A.in1 (Builtin.Builtins.bindParams "max" ["key", "default"] 0 ⟨[], []⟩ >>= _) _ _ s
  refine wpAny_bind (wpAny_of_eq (show Builtin.Builtins.bindParams "max" ["key", "default"] 0 ⟨[], []⟩ = pure [none, none] from rfl) ?_)
  show wpAny _ A.in1 (newTuple [a, b] >>= _) _ _ s
  refine wpAny_bind (wpAny_newObj_type ?_)
  refine wpAny_bind (wpAny_pyIter_tuple hT ?_)
  refine wpAny_bind (wpAny_newObj_type ?_)
  rw [hname]
  have nos : ∀ x, s.heap.objs.size ≤ x → s.heap.get? x = none := fun x hx => by
    cases e : s.heap.get? x with
    | none => rfl
    | some o => exact absurd (Heap.lt_size e) (Nat.not_lt.mpr hx)
  refine wpAny_pure ⟨plainId_quiet F.plain_max_loop _, max_loop_two (h0 := s.heap) (Walks.tuple (A := A.in1) hh _ s.heap.objs.size (by rw [hsz]; exact Nat.ne_of_lt (Nat.lt_succ_self _)) #[a, b]) _ (fun hm => ?_) (fun x hx => ?_) (nos _ ?_) (fun v hv => by simpa using hv.symm) (fun v hv => by simpa using hv.symm) hcmp (fun x o e => ?_) ?_ (Heap.get?_push_size _ rfl) fun h' tk hk => h h' tk hk⟩
  · rcases List.mem_cons.mp hm with e | hm
    · dsimp only at e
      rw [Heap.size_push] at e
      exact absurd e (Nat.succ_ne_self _)
    · have e := List.mem_singleton.mp hm
      dsimp only at e
      rw [Heap.size_push, hsz] at e
      exact absurd e (show s.heap.objs.size + 1 + 1 ≠ s.heap.objs.size from fun z => by
        have z' : (s.heap.objs.size : Nat) + 2 = s.heap.objs.size := z
        omega)
  · rw [List.mem_singleton.mp hx, hsz]
    exact nos _ (Nat.le_succ _)
  · rw [Heap.size_push, hsz]
    omega
  · exact Heap.get?_push_of_some _ (Heap.get?_push_of_some _ (Heap.get?_push_of_some _ e))
  · exact ⟨⟨_, Heap.get?_push_of_some _ (Heap.get?_push_size _ rfl), rfl, rfl⟩, (hT.push _).push _⟩

theorem min_loop_two {prog : Program} {w : World} {A : Around} {R : Result → Shared → Prop} {I : Addr} {fp wr : List Addr} {P : Nat → Value → Prop} {St : Nat → Heap → Prop} {h0 : Heap} {a b : Value} {c0 : Bool}
    (W : Walks prog w A.in1 I fp wr 2 P St) (S : Addr) (hSf : S ∉ fp) (hw0 : ∀ x ∈ wr, h0.get? x = none) (hS0 : h0.get? S = none) (hPa : ∀ v, P 0 v → v = a) (hPb : ∀ v, P 1 v → v = b)
    (hcmp : ∀ (s' : Shared) (Q' : Value → Shared → Prop) (E' : Value → Shared → Prop), (∀ x o, h0.get? x = some o → s'.heap.get? x = some o) → Q' (.bool c0) s' → wpAny (model prog w) A.in1 (richCompare .Lt b a) Q' E' s')
    {s : Shared} {c : Nat} (hk0 : ∀ x o, h0.get? x = some o → s.heap.get? x = some o) (hst : St 0 s.heap) (hS : s.heap.get? S = some { cls := .type "list", dict := none, data := .seq #[] c, slots := #[] })
    (hR : ∀ h' tk, (∀ x o, h0.get? x = some o → h'.get? x = some o) → R (.ok (.ret (if c0 then b else a))) { s with heap := h', toks := tk }) :
    codeAny (model prog w) A (.builtin "min.loop" ⟨[.ref I, .none, .ref S], []⟩) R s := by
  have hSw : S ∉ wr := fun h => hSf (W.sub _ h)
  have hname : (toString "min" ++ toString ".loop" : String) = "min.loop" := by decide
  -- the end
  have fin : ∀ (s2 : Shared) (v : Value) (c2 : Nat), (∀ x o, h0.get? x = some o → s2.heap.get? x = some o) → St 2 s2.heap → s2.heap.get? S = some { cls := .type "list", dict := none, data := .seq #[v, v] c2, slots := #[] } → (∀ h' tk, (∀ x o, h0.get? x = some o → h'.get? x = some o) → R (.ok (.ret v)) { s2 with heap := h', toks := tk }) → codeAny (model prog w) A (.builtin "min.loop" ⟨[.ref I, .none, .ref S], []⟩) R s2 := by
    intro s2 v c2 hk2 st2 hS2 hR2
    refine codeAny_builtin F.entry_min_loop ?_
    rw [Around.under_plainId F.plain_min_loop _]
    show wpAny _ A.in1 (seqItems? (.ref S) >>= _) _ _ s2
    refine wpAny_bind (wpAny_seqItems hS2 rfl ?_)
    show wpAny _ A.in1 (tryCatch (pyNext (.ref I)) _ >>= _) _ _ s2
    refine wpAny_bind (wpAny_tryCatch (W.done s2 _ _ st2 fun h' tk hk' => ?_))
    have hS' := hk' S _ hSw hS2
    show wpAny _ A.in1 (updateSeq S (fun _ => #[]) >>= _) _ _ _
    refine wpAny_bind ?_
    refine wpAny_updateSeq hS' rfl (wpAny_bind (wpAny_letGo (wpAny_pure ?_)))
    refine hR2 _ tk fun x o e => (Heap.get?_update_other _ _ (fun z : S = x => by rw [← z, hS0] at e; cases e)).trans (hk' x o (fun z => by rw [hw0 x z] at e; cases e) (hk2 x o e))
  refine codeAny_builtin F.entry_min_loop ?_
  rw [Around.under_plainId F.plain_min_loop _]
  show wpAny _ A.in1 (seqItems? (.ref S) >>= _) _ _ s
  refine wpAny_bind (wpAny_seqItems hS rfl ?_)
  show wpAny _ A.in1 (tryCatch (pyNext (.ref I)) _ >>= _) _ _ s
  refine wpAny_bind (wpAny_tryCatch (W.item 0 s _ _ (by decide) hst fun v h1 tk1 hP st1 hk1 => ?_))
  obtain rfl := hPa v hP
  have hS1 := hk1 S _ hSw hS
  show wpAny _ A.in1 (updateSeq S (fun _ => #[v, v]) >>= _) _ _ _
  refine wpAny_bind ?_
  refine wpAny_updateSeq hS1 rfl ?_
  rw [hname]
  refine wpAny_pure ⟨plainId_quiet F.plain_min_loop _, ?_⟩
  have hkA : ∀ x o, h0.get? x = some o → h1.get? x = some o := fun x o e => hk1 x o (fun z => by rw [hw0 x z] at e; cases e) (hk0 x o e)
  have hSA := Heap.get?_update_self (h := h1) (Obj.mapSeq (fun _ => #[v, v])) hS1 rfl
  have stA : St 1 (h1.update S (Obj.mapSeq (fun _ => #[v, v]))) := W.frame _ _ _ st1 fun x hx o e => (Heap.get?_update_other _ _ (fun h : S = x => hSf (by rw [h]; exact hx))).trans e
  have hkB : ∀ x o, h0.get? x = some o → (h1.update S (Obj.mapSeq (fun _ => #[v, v]))).get? x = some o := fun x o e => (Heap.get?_update_other _ _ (fun z : S = x => by rw [← z, hS0] at e; cases e)).trans (hkA x o e)
  generalize hgB : h1.update S (Obj.mapSeq (fun _ => #[v, v])) = hB at hSA stA hkB
  -- the second
  refine codeAny_builtin F.entry_min_loop ?_
  rw [Around.under_plainId F.plain_min_loop _]
  show wpAny _ A.in1 (seqItems? (.ref S) >>= _) _ _ _
  refine wpAny_bind (wpAny_seqItems (by first | exact hSA | (rw [← hgB] at hSA; exact hSA)) rfl ?_)
  show wpAny _ A.in1 (tryCatch (pyNext (.ref I)) _ >>= _) _ _ _
  refine wpAny_bind (wpAny_tryCatch (W.item 1 _ _ _ (by decide) (by first | exact stA | (rw [← hgB] at stA; exact stA)) fun u h2 tk2 hP2 st2 hk2 => ?_))
  obtain rfl := hPb u hP2
  have hS2 := hk2 S _ hSw (by first | exact hSA | (rw [← hgB] at hSA; exact hSA))
  have hkC : ∀ x o, h0.get? x = some o → h2.get? x = some o := fun x o e => hk2 x o (fun z => by rw [hw0 x z] at e; cases e) (by first | exact hkB x o e | (rw [← hgB] at hkB; exact hkB x o e))
  show wpAny _ A.in1 (tryCatch (holding [u, u] (richCompare .Lt u v >>= _)) _ >>= _) _ _ _
  refine wpAny_bind (wpAny_tryCatch (wpAny_holding (wpAny_bind (hcmp _ _ _ hkC ?_))))
  refine wpAny_bind (wpAny_holding (wpAny_truthy_bool ?_))
  refine wpAny_bind (wpAny_letGo (wpAny_pure ?_))
  cases c0 with
  | true =>
    simp only [if_true]
    refine wpAny_bind ?_
    refine wpAny_updateSeq hS2 rfl (wpAny_bind (wpAny_letGo ?_))
    rw [hname]
    refine wpAny_pure ⟨plainId_quiet F.plain_min_loop _, fin _ u _ (fun x o e => (Heap.get?_update_other _ _ (fun z : S = x => by rw [← z, hS0] at e; cases e)).trans (hkC x o e)) (W.frame _ _ _ st2 fun x hx o e => (Heap.get?_update_other _ _ (fun h : S = x => hSf (by rw [h]; exact hx))).trans e) (Heap.get?_update_self _ hS2 rfl) fun h' tk hk => ?_⟩
    exact hR h' tk hk
  | false =>
    simp only [Bool.false_eq_true, if_false]
    refine wpAny_bind (wpAny_letGo ?_)
    rw [hname]
    refine wpAny_pure ⟨plainId_quiet F.plain_min_loop _, fin _ v _ hkC st2 hS2 fun h' tk hk => ?_⟩
    exact hR h' tk hk
theorem min_two_on {prog : Program} {w : World} {A : Around} {E : Value → Shared → Prop} {s : Shared} {a b : Value} {c0 : Bool} {Q : Value → Shared → Prop} (hh : A.handled = none)
    (hcmp : ∀ (s' : Shared) (Q' : Value → Shared → Prop) (E' : Value → Shared → Prop), (∀ x o, s.heap.get? x = some o → s'.heap.get? x = some o) → Q' (.bool c0) s' → wpAny (model prog w) A.in1 (richCompare .Lt b a) Q' E' s')
    (h : ∀ h' tk, (∀ x o, s.heap.get? x = some o → h'.get? x = some o) → Q (if c0 then b else a) { s with heap := h', toks := tk }) : wpAny (model prog w) A (call (.builtin "min") [a, b]) Q E s := by
  have hname : (toString "min" ++ toString ".loop" : String) = "min.loop" := by decide
  have hT : (s.heap.push { cls := .type "tuple", data := .seq #[a, b] }).IsTuple s.heap.objs.size #[a, b] := ⟨_, Heap.get?_push_size _ rfl, rfl, 0, rfl⟩
  have hsz : (s.heap.push { cls := .type "tuple", data := .seq #[a, b] }).objs.size = s.heap.objs.size + 1 := Heap.size_push ..
  refine call_function_tree F.kind_min F.plain_min F.entry_min (F.args_min2 _ _) ?_
  show wpAny _ A.in1 (Builtin.Builtins.bindParams "min" ["key", "default"] 0 ⟨[], []⟩ >>= _) _ _ s
  refine wpAny_bind (wpAny_of_eq (show Builtin.Builtins.bindParams "min" ["key", "default"] 0 ⟨[], []⟩ = pure [none, none] from rfl) ?_)
  show wpAny _ A.in1 (newTuple [a, b] >>= _) _ _ s
  refine wpAny_bind (wpAny_newObj_type ?_)
  refine wpAny_bind (wpAny_pyIter_tuple hT ?_)
  refine wpAny_bind (wpAny_newObj_type ?_)
  rw [hname]
  have nos : ∀ x, s.heap.objs.size ≤ x → s.heap.get? x = none := fun x hx => by
    cases e : s.heap.get? x with
    | none => rfl
    | some o => exact absurd (Heap.lt_size e) (Nat.not_lt.mpr hx)
  refine wpAny_pure ⟨plainId_quiet F.plain_min_loop _, min_loop_two (h0 := s.heap) (Walks.tuple (A := A.in1) hh _ s.heap.objs.size (by rw [hsz]; exact Nat.ne_of_lt (Nat.lt_succ_self _)) #[a, b]) _ (fun hm => ?_) (fun x hx => ?_) (nos _ ?_) (fun v hv => by simpa using hv.symm) (fun v hv => by simpa using hv.symm) hcmp (fun x o e => ?_) ?_ (Heap.get?_push_size _ rfl) fun h' tk hk => h h' tk hk⟩
  · rcases List.mem_cons.mp hm with e | hm
    · dsimp only at e
      rw [Heap.size_push] at e
      exact absurd e (Nat.succ_ne_self _)
    · have e := List.mem_singleton.mp hm
      dsimp only at e
      rw [Heap.size_push, hsz] at e
      exact absurd e (show s.heap.objs.size + 1 + 1 ≠ s.heap.objs.size from fun z => by
        have z' : (s.heap.objs.size : Nat) + 2 = s.heap.objs.size := z
        omega)
  · rw [List.mem_singleton.mp hx, hsz]
    exact nos _ (Nat.le_succ _)
  · rw [Heap.size_push, hsz]
    omega
  · exact Heap.get?_push_of_some _ (Heap.get?_push_of_some _ (Heap.get?_push_of_some _ e))
  · exact ⟨⟨_, Heap.get?_push_of_some _ (Heap.get?_push_size _ rfl), rfl, rfl⟩, (hT.push _).push _⟩

section
variable {X : Cx}
theorem reads_keep {h h' : Heap} (k : ∀ x o, h.get? x = some o → h'.get? x = some o) {v : Value} {d : PyData} {as : List Addr} (r : Reads h v d as) : Reads h' v d as := PyProof.Rows.Reads.keeps k r
/-- max(x, y) of points -/
def rMaxP : List V → Hp → VK → Prop := fun xs H Q => ∃ (a b : Addr) (p q : Pt), xs = [.ref a, .ref b] ∧ PtAt H a p ∧ PtAt H b q ∧ Q (if ptLt p q then .ref b else .ref a) H
def rMinP : List V → Hp → VK → Prop := fun xs H Q => ∃ (a b : Addr) (p q : Pt), xs = [.ref a, .ref b] ∧ PtAt H a p ∧ PtAt H b q ∧ Q (if ptLt q p then .ref b else .ref a) H
theorem call_maxP (hc : X.calm = true) (hu : X.A.units + 64 < cLine) : CallR X (.builtin "max") rMaxP := by
  intro pins s σ H xs us Q I r h
  obtain ⟨a, b, p, q, rfl, hp, hq, k⟩ := h
  obtain ⟨u, v, rfl, ru, rv⟩ := vals2 r
  obtain ⟨as, r1⟩ := Dp.reads I _ _ u hp.dp ru
  obtain ⟨bs, r2⟩ := Dp.reads I _ _ v hq.dp rv
  refine max_two_on (c0 := ptLt p q) (I.ok.hd hc) (fun s' Q' E' kk hq' => ?_) fun h' tk kk => ⟨_, H, I.kept (t' := tk) kk, ?_, k⟩
  · exact PySem.W.gt_data (reads_keep kk r2) (reads_keep kk r1) (pt_alike q p) (by intro z; cases z) (by show X.A.units + 1 + _ < _; simp [ptD, PyData.depth, PyData.depthAll]; omega) hq'
  · cases ptLt p q
    · exact ru
    · exact rv
theorem call_minP (hc : X.calm = true) (hu : X.A.units + 64 < cLine) : CallR X (.builtin "min") rMinP := by
  intro pins s σ H xs us Q I r h
  obtain ⟨a, b, p, q, rfl, hp, hq, k⟩ := h
  obtain ⟨u, v, rfl, ru, rv⟩ := vals2 r
  obtain ⟨as, r1⟩ := Dp.reads I _ _ u hp.dp ru
  obtain ⟨bs, r2⟩ := Dp.reads I _ _ v hq.dp rv
  refine min_two_on (c0 := ptLt q p) (I.ok.hd hc) (fun s' Q' E' kk hq' => ?_) fun h' tk kk => ⟨_, H, I.kept (t' := tk) kk, ?_, k⟩
  · exact PySem.W.lt_data (reads_keep kk r2) (reads_keep kk r1) (pt_alike q p) (by intro z; cases z) (by show X.A.units + 1 + _ < _; simp [ptD, PyData.depth, PyData.depthAll]; omega) hq'
  · cases ptLt q p
    · exact ru
    · exact rv
end
end Ah

/-! rows of a dict of texts and ints, in the order of points -/
namespace Ah
open PySem PySem.Spec PySem.Calls PyProof.Rows L2 He
def keyStr : Key → Str
  | .inr z => z
  | .inl _ => Str.empty
/-- rows lie at these addresses -/
inductive RowsP (H : Hp) : List Addr → List (Str × Int) → Prop
  | nil : RowsP H [] []
  | cons {a : Addr} {r : Str × Int} {as : List Addr} {rs : List (Str × Int)} (h : H a = some (.tup [.str r.1, .int r.2])) (t : RowsP H as rs) : RowsP H (a :: as) (r :: rs)
section
variable {H H' : Hp} {as bs : List Addr} {rs ss : List (Str × Int)}
theorem RowsP.tk (h : RowsP H as rs) (t : Tk H H') : RowsP H' as rs := by
  induction h with
  | nil => exact .nil
  | cons h _ ih => exact .cons (t _ _ h) ih
theorem RowsP.len (h : RowsP H as rs) : as.length = rs.length := by
  induction h with
  | nil => rfl
  | cons _ _ ih => simp [ih]
theorem RowsP.app (h : RowsP H as rs) (g : RowsP H bs ss) : RowsP H (as ++ bs) (rs ++ ss) := by
  induction h with
  | nil => exact g
  | cons h _ ih => exact .cons h ih
theorem RowsP.take (h : RowsP H as rs) (n : Nat) : RowsP H (as.take n) (rs.take n) := by
  induction h generalizing n with
  | nil => simpa using RowsP.nil
  | cons h t ih =>
    cases n with
    | zero => simpa using RowsP.nil
    | succ n => exact .cons h (ih n)
theorem RowsP.dps {K : Frag} (h : RowsP H as rs) : DpAll K H (as.map V.ref) (rs.map fun r => .tuple [.str r.1, .int r.2]) := by
  induction h with
  | nil => exact .nil
  | cons h _ ih => exact .cons (.tup (SqT.of h) (.cons (.str _) (.cons (.int _) .nil))) ih
end
/-- a comprehension over the keys of a locked dict, a point made of each -/
theorem lc_keysP {td te : TE} {σ : L2.St} {i : Nat} {H : Hp} {R : Addr} {kvs : List (Key × V)} {f : Str → Pt} {Q : VK} (hR : H R = some (.dK kvs)) (hk : ∀ p ∈ kvs, ∃ z v, p = (Sum.inr z, v)) (few : kvs.length ≤ 1000)
    (hd : ∀ G Q', Ex R H G → Q' (.ref R) G → td σ G Q')
    (he : ∀ z v G Q', (Sum.inr z, v) ∈ kvs → Ex R H G → (∀ a, G a = none → Q' (.ref a) (upd G a (.tup [.int (f z).1, .str (f z).2]))) → te ((wipe σ [i]).set i (some (.str z))) G Q')
    (hw : ∀ x, wipe ((wipe σ [i]).set i (some x)) [i] = wipe σ [i])
    (q : ∀ H' D bs, Same H H' → H D = none → H' D = some (.lst (bs.map V.ref)) → PtsAt H' bs (kvs.map fun p => f (keyStr p.1)) → Q (.ref D) H') : tLockE (tLc (iKeys td) (gName i) tYes te [i]) σ H Q := by
  refine ⟨R, .dK kvs, hR, trivial, fun od => ?_⟩
  have exL : Ex R H (upd H R (.frz od (.dK kvs))) := Ex.refl.upd
  refine hd _ _ exL ⟨R, od, rfl, .inl ⟨kvs, upd_same, fun D hD => ?_⟩⟩
  have hDR : D ≠ R := fun z => by
    rw [z, upd_same] at hD
    cases hD
  have hD0 : H D = none := by
    rw [upd_ne hDR] at hD
    exact hD
  refine lc_it walk_keys (fun j H2 => ∃ bs, H2 D = some (.lst (bs.map V.ref)) ∧ bs.length = j ∧ PtsAt H2 bs ((kvs.take j).map fun p => f (keyStr p.1)) ∧ H2 R = some (.frz od (.dK kvs)) ∧ Ex R H H2) ?_ (fun j H2 _ ⟨_, _, _, _, h, _⟩ => h) ?_ ?_
  · refine ⟨[], upd_same, rfl, (by rw [List.take_zero]; exact .nil), (by rw [upd_ne hDR.symm, upd_same]), fun b o hb h => ?_⟩
    rw [upd_ne (ne_of_none h hD0), upd_ne hb]
    exact h
  · rintro j x H2 H3 hj ⟨bs, hb, hl, hp, hr, ex⟩ ⟨rfl, k, v, hkv, rfl⟩
    obtain ⟨z, v', e⟩ := hk (k, v) (List.mem_of_getElem? hkv)
    cases e
    refine ⟨hw _, ?_⟩
    dsimp only [tYes]
    rw [if_pos rfl]
    refine he z v H3 _ (List.mem_of_getElem? hkv) ex fun a ha => ?_
    have hDa : D ≠ a := (ne_of_none hb ha)
    refine ⟨_, by rw [upd_ne hDa]; exact hb, (by rw [List.length_map, sizeLine_eq]; omega), bs ++ [a], ?_, ?_, ?_, ?_, ?_⟩
    · rw [upd_same, List.map_append]
      rfl
    · rw [List.length_append, hl]
      rfl
    · have e1 : (kvs.take (j + 1)).map (fun p => f (keyStr p.1)) = (kvs.take j).map (fun p => f (keyStr p.1)) ++ [f z] := by
        rw [List.take_add_one, hkv, List.map_append]
        rfl
      rw [e1]
      have t1 : Tk H3 (upd H3 a (.tup [.int (f z).1, .str (f z).2])) := Tk.same (Same.upd (Same.refl _) ha)
      have t2 : Tk (upd H3 a (.tup [.int (f z).1, .str (f z).2])) (upd (upd H3 a (.tup [.int (f z).1, .str (f z).2])) D (.lst (bs.map V.ref ++ [.ref a]))) := Tk.upd (by rw [upd_ne hDa]; exact hb) (fun xs z => by cases z)
      exact (hp.tk (t1.trans t2)).app (.cons (t2 _ _ upd_same) .nil)
    · rw [upd_ne hDR.symm, upd_ne (ne_of_none hr ha)]
      exact hr
    · intro b o hb' h
      rw [upd_ne (ne_of_none h hD0), upd_ne (ne_of_none (ex b o hb' h) ha)]
      exact ex b o hb' h
  · rintro H2 ⟨bs, hb, hl, hp, hr, ex⟩
    rw [List.take_length] at hp
    refine ⟨hr, q _ D bs ?_ hD0 ?_ ?_⟩
    · intro b o h
      by_cases e : b = R
      · subst e
        rw [upd_same, ← h, hR]
      · rw [upd_ne e]
        exact ex b o e h
    · rw [upd_ne hDR]
      exact hb
    · exact hp.tk (Tk.upd hr (fun xs z => by cases z))
/-- a comprehension over a list of points: for those with c, a row -/
theorem lc_rowsP {K : Frag} {tl te : TE} {tt : TT} {σ : L2.St} {i : Nat} {H : Hp} {L : Addr} {as : List Addr} {qs : List Pt} {c : Pt → Bool} {g : Str → Int} {Q : VK} (hL : H L = some (.lst (as.map V.ref))) (hp : PtsAt H as qs) (few : qs.length ≤ 1000)
    (hl : ∀ Q', Q' (.ref L) H → tl σ H Q')
    (ht : ∀ a p G Q', p ∈ qs → PtAt G a p → Same H G → (∀ G', Same G G' → Q' (c p) G') → tt ((wipe σ [i]).set i (some (.ref a))) G Q')
    (he : ∀ a p G Q', p ∈ qs → PtAt G a p → Same H G → (∀ x, G x = none → Q' (.ref x) (upd G x (.tup [.str p.2, .int (g p.2)]))) → te ((wipe σ [i]).set i (some (.ref a))) G Q')
    (hw : ∀ x, wipe ((wipe σ [i]).set i (some x)) [i] = wipe σ [i])
    (q : ∀ H' D bs, Same H H' → H D = none → H' D = some (.lst (bs.map V.ref)) → RowsP H' bs ((qs.filter c).map fun p => (p.2, g p.2)) → Q (.ref D) H') : tLc (iList K tl) (gName i) tt te [i] σ H Q := by
  refine hl _ ⟨L, rfl, ⟨_, SqL.of hL⟩, fun D hD => ?_⟩
  refine lc_it (walk_list (xs := as.map V.ref)) (fun j H2 => ∃ bs, H2 D = some (.lst (bs.map V.ref)) ∧ bs.length ≤ j ∧ RowsP H2 bs (((qs.take j).filter c).map fun p => (p.2, g p.2)) ∧ Same H H2) ?_ (fun j H2 _ ⟨_, _, _, _, s⟩ => SqL.of (s _ _ hL)) ?_ ?_
  · exact ⟨[], upd_same, by simp, (by rw [List.take_zero]; exact .nil), Same.upd (Same.refl _) hD⟩
  · rintro j y H2 H3 hj ⟨bs, hb, hlen, hrw, s⟩ ⟨rfl, hy⟩
    obtain ⟨a, ea, rfl⟩ : ∃ a, as[j]? = some a ∧ y = .ref a := by
      rw [List.getElem?_map] at hy
      cases e : as[j]? with
      | none =>
        rw [e] at hy
        cases hy
      | some a =>
        rw [e] at hy
        cases hy
        exact ⟨a, rfl, rfl⟩
    obtain ⟨p, er, ha⟩ := hp.at ea
    refine ⟨hw _, ?_⟩
    have hjl := (List.getElem?_eq_some_iff.mp ea).1
    have hln := hp.len
    refine ht a p H3 _ (List.mem_of_getElem? er) (ha.same s) s fun H4 s4 => ?_
    have e1 : ((qs.take (j + 1)).filter c).map (fun p => (p.2, g p.2)) = ((qs.take j).filter c).map (fun p => (p.2, g p.2)) ++ (if c p = true then [(p.2, g p.2)] else []) := by
      rw [List.take_add_one, er, List.filter_append, List.map_append]
      congr 1
      cases hcp : c p <;> simp [hcp]
    have s34 := s.trans s4
    have hb4 := s4 _ _ hb
    have hrw4 := hrw.tk (.same s4)
    cases hcp : c p with
    | true =>
      rw [hcp, if_pos rfl] at e1
      rw [if_pos rfl]
      refine he a p H4 _ (List.mem_of_getElem? er) (ha.same s34) s34 fun x hx => ?_
      have hDx : D ≠ x := ne_of_none hb4 hx
      refine ⟨_, by rw [upd_ne hDx]; exact hb4, (by rw [List.length_map, sizeLine_eq]; omega), bs ++ [x], ?_, ?_, ?_, ?_⟩
      · rw [upd_same, List.map_append]
        rfl
      · rw [List.length_append]
        simp
        omega
      · rw [e1]
        have t1 : Tk H4 (upd H4 x (.tup [.str p.2, .int (g p.2)])) := Tk.same (Same.upd (Same.refl _) hx)
        have t2 : Tk (upd H4 x (.tup [.str p.2, .int (g p.2)])) (upd (upd H4 x (.tup [.str p.2, .int (g p.2)])) D (.lst (bs.map V.ref ++ [.ref x]))) := Tk.upd (by rw [upd_ne hDx]; exact hb4) (fun xs z => by cases z)
        exact (hrw4.tk (t1.trans t2)).app (.cons (t2 _ _ upd_same) .nil)
      · intro b o hbo
        rw [upd_ne (ne_of_none hbo hD), upd_ne (ne_of_none (s34 _ _ hbo) hx)]
        exact s34 _ _ hbo
    | false =>
      rw [hcp] at e1
      simp only [Bool.false_eq_true, if_false, List.append_nil] at e1
      rw [if_neg (by decide)]
      exact ⟨bs, hb4, by omega, by rw [e1]; exact hrw4, s34⟩
  · rintro H2 ⟨bs, hb, hlen, hrw, s⟩
    rw [List.length_map, List.take_of_length_le (by rw [hp.len]; omega)] at hrw
    exact q H2 D bs s hD hb hrw
section
variable {X : Cx} {k j : Nat} {f C : Addr} {sp : Sp} {E : XK} {e : Expr} {te : TE} {pos : Pos}
/-- {x!r} in an f-string, x an instance of C with its own __repr__ -/
def tFmtRO (C : Addr) (sp : Sp) (E : XK) (te : TE) : TE := fun σ H Q => te σ H fun x H1 => ∃ a dx fs, x = .ref a ∧ H1 a = some (.ins C dx fs) ∧ sp [x] H1 (fun z H' => ∃ y, z = .str y ∧ y.length ≤ sizeLine ∧ Q (.str y) H') E
theorem pe_fmtRO (hm : Meth X.K C "__repr__" f) (G : FnB X.prog X.w X.K X.mg X.base k f sp) (hr : Rm j X.A) (hx : Passes (L2.CX X.prog X.w) X E) (he : PE X e te) (hk : k ≤ j := by decide) : PE X (.FormattedValue e 114 none pos) (tFmtRO C sp E te) := by
  refine ⟨fun pins s σ H Q I h => ?_⟩
  refine wpAny_FormattedValue_repr (thn (he.run pins s σ H _ I h) fun v s1 hv => ?_)
  obtain ⟨x, H1, I1, r1, a, dx, fs, rfl, ha, q⟩ := hv
  cases (show v = Value.ref a from r1)
  obtain ⟨mA, O, _⟩ := ins_get I1.hok ha
  obtain ⟨od, J, _⟩ := O.look
  unfold pyReprObj
  refine wpAny_bind (wpAny_cRoomFor (hu0 hr) ?_)
  refine wpAny_bind (wpAny_bind (J.type.here ((PySem.W.looks_findIn I1.kIn hm.at_).here ?_)))
  refine wpAny_bind (m := callSpecialIfBound? (.ref a) (Str.ofString "__repr__")) (PySem.W.ifBound_K I1.kIn J hm.at_ hm.fn (wpAny_mono (wpAny_call (runB (us := [.ref a]) (vs := [.ref a]) G (hr.mono hk) I1.env0 hx I1 (.cons rfl .nil) q)) (fun w s' z => ?_) fun _ _ x => x))
  obtain ⟨z', H', I', rz, y, ey, hy, qz⟩ := z
  subst ey
  obtain ⟨t, e⟩ := (show ∃ t, w = Value.str y t from rz)
  subst e
  refine wpAny_bind (wpAny_isInstance (T := "str") (b := true) rfl isSubtype_str_str ?_)
  exact wpAny_pure (wpAny_formatField_str ⟨.str y, H', I'.tok _, ⟨_, rfl⟩, qz⟩ ⟨.str y, H', I'.tok _, ⟨_, rfl⟩, qz⟩ hy)
/-- == of two dicts: equal ones, or of other lengths -/
def rEqD2 : R2 := fun x y H Q => rEqDA x y H Q ∨ ∃ a b ks ls, x = .ref a ∧ y = .ref b ∧ H a = some (.dK ks) ∧ H b = some (.dK ls) ∧ ks.length ≠ ls.length ∧ Q (.bl false) H
theorem op_eqD2 (hu : X.A.units < cLine) : OpR X (compareOp .Eq) rEqD2 := by
  intro pins s σ H x y v u Q I rx ry h
  rcases h with h | ⟨a, b, ks, ls, rfl, rfl, ea, eb, hlen, q⟩
  · exact op_eq_dictA hu pins s σ H x y v u Q I rx ry h
  · obtain rfl : v = Value.ref a := rx
    obtain rfl : u = Value.ref b := ry
    obtain ⟨_, ya, va, ra, da⟩ := (show ObjOk X.prog X.w H s.heap a (.dK ks) from I.hok a _ ea)
    obtain ⟨_, yb, vb, rb, db⟩ := (show ObjOk X.prog X.w H s.heap b (.dK ls) from I.hok b _ eb)
    have hl : ¬ va.length = vb.length := by rw [← ra.length, ← rb.length]; exact hlen
    exact PySem.W.keq_eq (knd := mixKind X.prog X.w) (r := true) ya yb da db hu (fun e => absurd e hl) (fin_bl I q (by simp [hl]))
theorem op_leP (hu : X.A.units + 64 < cLine) : OpR X (compareOp .LtE) (rPt fun p q => !ptLt q p) := by
  intro pins s σ H x y v u Q I rx ry h
  obtain ⟨a, b, p, q, rfl, rfl, hp, hq, k⟩ := h
  obtain ⟨as, r1⟩ := Dp.reads I _ _ v hp.dp rx
  obtain ⟨bs, r2⟩ := Dp.reads I _ _ u hq.dp ry
  exact PySem.W.le_data r1 r2 (pt_alike p q) (by intro z; cases z) (by simp [ptD, PyData.depth, PyData.depthAll]; omega) ⟨.bl _, H, I, rfl, k⟩
end
theorem cut_take (xs : List V) (h : Nat) : cutV xs none (some (h : Int)) = xs.take h := by
  unfold cutV
  have e0 : HT.sIx xs.length 0 none = 0 := rfl
  rw [e0, List.drop_zero, Nat.sub_zero]
  have e1 : HT.sIx xs.length xs.length (some (h : Int)) = min h xs.length := by
    simp [HT.sIx]
    omega
  rw [e1]
  by_cases hh : h ≤ xs.length
  · rw [Nat.min_eq_left hh]
  · rw [Nat.min_eq_right (by omega), List.take_length, List.take_of_length_le (by omega)]
/-- a comprehension over the keys of a locked dict that takes none -/
theorem lc_keysNone {td te : TE} {tt : TT} {σ : L2.St} {i : Nat} {H : Hp} {R : Addr} {kvs : List (Key × V)} {Q : VK} (hR : H R = some (.dK kvs)) (hk : ∀ p ∈ kvs, ∃ z v, p = (Sum.inr z, v))
    (hd : ∀ G Q', Ex R H G → Q' (.ref R) G → td σ G Q')
    (ht : ∀ z v G Q', (Sum.inr z, v) ∈ kvs → Ex R H G → Rd G R (.dK kvs) → (∀ G', Same G G' → Q' false G') → tt ((wipe σ [i]).set i (some (.str z))) G Q')
    (hw : ∀ x, wipe ((wipe σ [i]).set i (some x)) [i] = wipe σ [i])
    (q : ∀ H' D, Same H H' → H D = none → H' D = some (.lst []) → Q (.ref D) H') : tLockE (tLc (iKeys td) (gName i) tt te [i]) σ H Q := by
  refine ⟨R, .dK kvs, hR, trivial, fun od => ?_⟩
  have exL : Ex R H (upd H R (.frz od (.dK kvs))) := Ex.refl.upd
  refine hd _ _ exL ⟨R, od, rfl, .inl ⟨kvs, upd_same, fun D hD => ?_⟩⟩
  have hDR : D ≠ R := fun z => by
    rw [z, upd_same] at hD
    cases hD
  have hD0 : H D = none := by
    rw [upd_ne hDR] at hD
    exact hD
  refine lc_it walk_keys (fun j H2 => H2 D = some (.lst []) ∧ H2 R = some (.frz od (.dK kvs)) ∧ Ex R H H2) ?_ (fun j H2 _ h => h.2.1) ?_ ?_
  · refine ⟨upd_same, (by rw [upd_ne hDR.symm, upd_same]), fun b o hb h => ?_⟩
    rw [upd_ne (ne_of_none h hD0), upd_ne hb]
    exact h
  · rintro j x H2 H3 hj ⟨hb, hr, ex⟩ ⟨rfl, k, v, hkv, rfl⟩
    obtain ⟨z, v', e⟩ := hk (k, v) (List.mem_of_getElem? hkv)
    cases e
    refine ⟨hw _, ht z v H3 _ (List.mem_of_getElem? hkv) ex (.inr ⟨od, hr⟩) fun G' sG => ?_⟩
    rw [if_neg (by decide)]
    exact ⟨sG _ _ hb, sG _ _ hr, fun b o hb' h => sG _ _ (ex b o hb' h)⟩
  · rintro H2 ⟨hb, hr, ex⟩
    refine ⟨hr, q _ D ?_ hD0 ?_⟩
    · intro b o h
      by_cases e : b = R
      · subst e
        rw [upd_same, ← h, hR]
      · rw [upd_ne e]
        exact ex b o e h
    · rw [upd_ne hDR]
      exact hb
theorem neI {i j : Int} {H : Hp} {Q : VK} (q : Q (.bl (!decide (i = j))) H) : rNe (.int i) (.int j) H Q := by
  refine ⟨rfl, ?_⟩
  have e : decide (V.int i = V.int j) = decide (i = j) := by simp
  rw [e]
  exact q
theorem neS_same {x y : Str} {H : Hp} {Q : VK} (e : x = y) (q : Q (.bl false) H) : rNe (.str x) (.str y) H Q := by
  subst e
  refine ⟨rfl, ?_⟩
  rw [decide_eq_true rfl]
  exact q
theorem canLayRP : ∀ {rs : List (Str × Int)}, (∀ r ∈ rs, PyData.strOk r.1 = true) → PyData.canLayAll0 (rs.map fun r => .tuple [.str r.1, .int r.2]) = true
  | [], _ => rfl
  | r :: rs, h => by
    refine Bool.and_eq_true_iff.mpr ⟨?_, canLayRP fun q hq => h q (List.mem_cons_of_mem _ hq)⟩
    show (PyData.strOk r.1 && (true && true)) = true
    rw [h r (List.mem_cons_self)]
    rfl
theorem depthRP : ∀ rs : List (Str × Int), PyData.depthAll (rs.map fun r => .tuple [.str r.1, .int r.2]) ≤ 1
  | [] => by decide
  | r :: rs => by
    show max (max 0 (max 0 0) + 1) (PyData.depthAll (rs.map fun r => .tuple [.str r.1, .int r.2])) ≤ 1
    have := depthRP rs
    omega
theorem shapedRP {rs : List (Str × Int)} (h : ∀ r ∈ rs, PyData.strOk r.1 = true) : SeqAt.shaped (.list (rs.map fun r => .tuple [.str r.1, .int r.2])) = true := by
  refine Bool.and_eq_true_iff.mpr ⟨canLayRP h, decide_eq_true ?_⟩
  show PyData.depthAll (rs.map fun r => .tuple [.str r.1, .int r.2]) + 1 ≤ 64
  have := depthRP rs
  omega
theorem neRP {K : Frag} {H : Hp} {a b : Addr} {as bs : List Addr} {rs : List (Str × Int)} {Q : VK} (ok : ∀ r ∈ rs, PyData.strOk r.1 = true) (h1 : H a = some (.lst (as.map V.ref))) (h2 : RowsP H as rs) (h3 : H b = some (.lst (bs.map V.ref))) (h4 : RowsP H bs rs) (q : Q (.bl false) H) : rNeD K (.ref a) (.ref b) H Q :=
  neD_same (.list (rs.map fun r => .tuple [.str r.1, .int r.2])) (.lst (SqL.of h1) h2.dps) (.lst (SqL.of h3) h4.dps) (shapedRP ok) q
end Ah

/-! a def that is called in any state of handling; repr of a list of one own instance -/
namespace Ah
open PySem PySem.Spec PySem.Calls PyProof.Rows L2 He
open L2H (RoomH)
open Builtin Builtin.List
/-- what a def promises, whatever is handled -/
structure FnN (P : Program) (w : World) (K : Frag) (mg : Str → Option Value) (base : Heap) (k : Nat) (f : Addr) (sp : Sp) : Prop where
  run : ∀ (A : Around) (outer : List Env) (s : Shared) (H : Hp) (us : List Value) (vs : List V) (Q : VK) (E : XK), RoomH k A → Env0 P w K mg base A outer s H → Vals vs us → sp vs H Q E →
    codeAny (model P w) A (.call (.ref f) ⟨us, []⟩) (CR (L2.CX P w) outer P w H s Q E) s
/-- the context of such a def's body -/
def cxN (CX : CXT) (P : Program) (w : World) (K : Frag) (mg : Str → Option Value) (base : Heap) (N : List Str) (qual : Str) (scope : Scope) (f : Addr) (cd : Value) (A : Around) (outer : List Env) (s : Shared) (H : Hp) (E : XK) : Cx :=
  { cxOf CX P w K mg base N qual scope f cd A outer s H E with calm := false }
theorem inv_startN {CX : CXT} {P : Program} {w : World} {K : Frag} {mg : Str → Option Value} {base : Heap} {N ps : List Str} {qual : Str} {scope : Scope} {f : Addr} {cd : Value} {A : Around} {outer : List Env} {s s1 : Shared} {H : Hp} {E : XK} {us : List Value} {vs : List V}
    (S : FnScope N ps scope) (e0 : Env0 P w K mg base A outer s H) (hl : vs.length = ps.length) (r : Vals vs us)
    (x : InCallC s s.heap.objs.size (bindL (envOfC qual scope s.heap.objs.size f cd).kindOf (ps.zip us) fun _ => none) (cellsFrom (s.heap.objs.size + 1) scope.names []) (bindC (envOfC qual scope s.heap.objs.size f cd).kindOf (ps.zip us) fun _ => none) s1) :
    L2.Inv (cxN CX P w K mg base N qual scope f cd A outer s H E) [] (L2.start N vs) H s1 := by
  have hpl : ps.length ≤ N.length := by have := congrArg List.length S.pre; rw [List.length_take] at this; omega
  obtain ⟨h1, tk, rfl, hk⟩ := x.done
  have noA : ∀ b : Addr, b ∉ (cxN CX P w K mg base N qual scope f cd A outer s H E).ex := fun b z => absurd (show b ∈ ([] : List Addr) from z) (by simp)
  refine ⟨⟨e0.mod, S.kind, rfl, rfl, Nat.le_refl _, fun y z c h1 h2 => ?_, fun y hy => ?_, fun y c _ h => ?_, (fun z => Bool.noConfusion (show false = true from z)), Around.frames_deeper e0.frames, .inr ⟨rfl, rfl⟩, fun b z => absurd z (noA b), e0.bs, e0.bsz, fun b _ _ => noA b, fun b z => absurd z (noA b), e0.funs, e0.frf⟩,
    rfl, e0.bare, Un.kept hk, ⟨_, x.toInCall.ns, fun i y v h1 h2 h3 => ?_⟩, fun y c h => ⟨_, x.cell y c h⟩, e0.hok.fresh (Nat.le_refl _), fun y c h => ?_, fun q hq => ?_, e0.hok.kept hk, ?_⟩
  · exact name_of_addr x.apart (PySem.mem_of_lookup h1) (PySem.mem_of_lookup h2)
  · have hy : scope.names.lookup y = some .cell ∨ scope.names.lookup y = some .free := hy
    rcases hy with hy | hy
    · exact cell_has hy
    · exact absurd rfl (S.nofree _ (PySem.mem_of_lookup hy))
  · exact Nat.le_of_lt (x.above y c (PySem.mem_of_lookup h))
  · have hi : i < vs.length := by
      unfold L2.start at h2
      by_cases hi : i < vs.length
      · exact hi
      · rw [List.getElem?_append_right (by simpa using hi)] at h2
        rw [List.getElem?_replicate] at h2
        split at h2 <;> cases h2
    have ha : vs[i]? = some v := by
      unfold L2.start at h2
      rw [List.getElem?_append_left (by simpa using hi), List.getElem?_map] at h2
      cases e : vs[i]? with
      | none => rw [e] at h2; cases h2
      | some a => rw [e] at h2; cases h2; rfl
    obtain ⟨u, hu, rv⟩ := r.get ha
    have hp : ps[i]? = some y := by
      rw [← S.pre, List.getElem?_take_of_lt (by omega)]; exact h1
    have ndP : ps.Nodup := by rw [← S.pre]; exact S.nd.sublist (List.take_sublist _ _)
    refine ⟨u, rv, ?_⟩
    rcases S.par y (List.mem_of_getElem? hp) with k | k
    · exact .inl ⟨k, bindL_get ndP hp hu k⟩
    · obtain ⟨c, e⟩ := cell_has (n := s.heap.objs.size + 1) k
      refine .inr ⟨.inl k, c, e, ?_⟩
      have q := x.cell y c e
      rw [bindC_get ndP hp hu (by show scope.names.lookup y ≠ _; rw [k]; decide)] at q
      exact q
  · exact e0.hok.fresh (Nat.le_of_lt (x.above y c (PySem.mem_of_lookup h)))
  · exact absurd (show q ∈ ([] : List (Addr × Obj)) ++ [] from hq) (by simp)
  · unfold L2.start
    show _ = N.length
    rw [List.length_append, List.length_map, List.length_replicate]
    omega
/-- THE RULE for such a def without defaults -/
theorem okN {P : Program} {w : World} {K : Frag} {mg : Str → Option Value} {base : Heap} {N ps : List Str} {k : Nat} {sp : Sp} {d : DefG} (S : Stands K d) (h0 : d.dfl = []) (sc : FnScope N ps d.scope) (len : ∀ vs H Q E, sp vs H Q E → vs.length = ps.length)
    (hb : ∀ (kV doc pm : Value) (an : Option Addr) (cdv ct : Value) (us : List Value), us.length = ps.length → bindArgs (PySem.W.fnOf d.name d.qual d.params d.body d.scope .none kV doc pm an cdv ct) ⟨us, []⟩ = pure (ps.zip us))
    (hbody : ∀ (A : Around) (outer : List Env) (s : Shared) (H : Hp) (vs : List V) (Q : VK) (E : XK), RoomH k (A.deeper (envOfC d.qual d.scope s.heap.objs.size (d.ad K) (CodeV K (d.ad K)))) → sp vs H Q E →
      ∃ t, PSs (cxN (L2.CX P w) P w K mg base N d.qual d.scope (d.ad K) (CodeV K (d.ad K)) A outer s H E) d.body t ∧ t { nx := fun _ H' => Q .non H', rt := Q } (L2.start N vs) H) : FnN P w K mg base (k + 1) (d.ad K) sp := by
  obtain ⟨fd, F⟩ := S
  have e : d.dvs K = [] := by unfold DefG.dvs; rw [h0]; rfl
  rw [e] at F
  refine ⟨fun A outer s H us vs Q E hr e0 r hsp => ?_⟩
  have hl := len _ _ _ _ hsp
  have KX : K.In s.heap := e0.mod.kin.keeps fun b o e => (e0.bs b o e).1
  have b := F.bindsN hb s us KX (by rw [List.append_nil, ← r.length]; exact hl)
  rw [List.append_nil] at b
  obtain ⟨oc, od, dV, kV, doc, pm, an, cdv, ct, osl, rfl, lk, hcd, _, _⟩ := F.ex
  have lim : s.heap.NoLimit := e0.mod.nolimit.keeps fun b o e => (e0.bs b o e).1
  have par : ∀ y ∈ ps.zip us, d.scope.names.lookup y.1 = some .local ∨ (d.scope.names.lookup y.1 = some .cell ∧ ((cellsFrom (s.heap.objs.size + 1) d.scope.names []).lookup y.1).isSome = true) := by
    rintro ⟨n, v⟩ hy
    cases sc.par n (List.of_mem_zip hy).1 with
    | inl q => exact Or.inl q
    | inr q => exact Or.inr ⟨q, PySem.W.cellsFrom_some _ _ _ (Or.inl q)⟩
  refine codeAny_call_function hr.depth (KX _ _ lk) rfl sc.co sc.gen rfl (PySem.W.codeRec_of KX hcd) (b _ _ _ _ ?_)
  refine wpAny_newFunctionEnv_cells sc.kind par fun env he s1 x => ?_
  subst he
  refine ⟨lim.keeps x.toInCall.keep, codeAny_func ?_⟩
  have ec : CodeV K (d.ad K) = cdv := by
    unfold CodeV
    rw [lk]
  subst ec
  obtain ⟨t, ht, hq⟩ := hbody A outer s H vs Q E (hr.deeper _) hsp
  have I := inv_startN (CX := L2.CX P w) (E := E) sc e0 hl r x
  refine wpAny_mono (ht.run [] s1 (L2.start N vs) H _ I hq) (fun fl s' hs => ?_) fun _ _ hs => hs
  cases fl with
  | ret u =>
    obtain ⟨v, _, H', J, rv, q⟩ := hs
    exact ⟨v, H', J.os, J.bare, J.base, J.hok, rv, q⟩
  | next =>
    obtain ⟨_, H', J, q⟩ := hs
    exact ⟨V.non, H', J.os, J.bare, J.base, J.hok, rfl, q⟩
  | brk => exact hs.elim fun _ z => z.elim fun _ z => z.2.elim
  | cont => exact hs.elim fun _ z => z.elim fun _ z => z.2.elim
theorem ifBoundBy_K {M : Model} {A : Around} {E : Value → Shared → Prop} {s : Shared} {K : Frag} {x C f : Addr} {ox : Obj} {od : Option Obj} {name : Str} {last : Value → List Value → Sem Value} {Q : Option Value → Shared → Prop} (X : K.In s.heap) (I : PySem.W.InstAt s.heap x ox C od) (hs : PySem.W.findIn K (.ref C) name = some (some (.ref f))) (hf : PySem.W.isFn K (.ref f) = true)
    (h : wpAny M A (last (.ref f) [.ref x]) (fun v => Q (some v)) E s) : wpAny M A (callSpecialIfBoundBy? last (.ref x) name) Q E s := by
  simp only [callSpecialIfBoundBy?, bindSpecialIfBound?]
  refine wpAny_holding (wpAny_bind (wpAny_bind (wpAny_bind (I.type.here ((PySem.W.looks_findIn X hs).here ?_)))))
  refine wpAny_bind (wpAny_askSetting (wpAny_ite ?_))
  have fin : wpAny M A (last (.ref f) [.ref x] >>= fun v => pure (some v)) Q E s := wpAny_bind (wpAny_mono h (fun v s' h' => wpAny_pure h') fun _ _ h' => h')
  split
  · exact wpAny_bind ((PySem.W.bind_fn X _ (beq_iff_eq.mp hf)).here (wpAny_pure (by exact fin)))
  · exact wpAny_tryCatch (wpAny_bind ((PySem.W.bind_fn X _ (beq_iff_eq.mp hf)).here (wpAny_pure (by exact fin))))
section
variable {X : Cx} {k : Nat} {f C : Addr} {sp : Sp}
/-- repr([x]), x an instance of C with its own __repr__ that tells z -/
def rRepr1 (C : Addr) (sp : Sp) : List V → Hp → VK → Prop := fun xs H Q => ∃ (a x dx : Addr) (fs : List (Str × V)) (z : Str), xs = [.ref a] ∧ H a = some (.lst [.ref x]) ∧ H x = some (.ins C dx fs) ∧ z.length ≤ 1000 ∧
  (∀ H1, Same H H1 → sp [.ref x] H1 (fun v H' => v = .str z ∧ H' = H1) L2.E0) ∧ ∀ H', Same H H' → Q (.str (listText [z])) H'
/-- the item, under the list's guard -/
theorem item_repr {A : Around} {pins : List (Addr × Obj)} {σ : L2.St} {H : Hp} {s : Shared} {x dx : Addr} {fs : List (Str × V)} {z : Str} {b : Nat} {Q : Str → Shared → Prop} {E : Value → Shared → Prop} (hm : Meth X.K C "__repr__" f) (G : FnN X.prog X.w X.K X.mg X.base k f sp) (hr : RoomH k A) (hu : A.units < cLine) (hbz : b ≤ sizeLine)
    (e0 : Env0 X.prog X.w X.K X.mg X.base A X.stack s H) (I : L2.Inv X pins σ H s) (hx : H x = some (.ins C dx fs)) (h : sp [.ref x] H (fun v H' => v = .str z ∧ H' = H) L2.E0)
    (q : ∀ s', L2.Inv X pins σ H s' → Q z s') : wpAny (model X.prog X.w) A (pyReprUnder b (.ref x)) Q E s := by
  obtain ⟨mA, O, _⟩ := ins_get I.hok hx
  obtain ⟨od, J, _⟩ := O.look
  refine wpAny_pyReprUnder_ref hbz ?_
  unfold pyReprObjUnder pyReprObjBy
  refine wpAny_bind (wpAny_cRoomFor hu ?_)
  refine wpAny_bind (wpAny_bind (J.type.here ((PySem.W.looks_findIn I.kIn hm.at_).here ?_)))
  refine wpAny_bind (ifBoundBy_K (name := Str.ofString "__repr__") I.kIn J hm.at_ hm.fn ?_)
  show wpAny (model X.prog X.w) A (call (.ref f) ([.ref x] ++ [])) _ _ _
  refine wpAny_call (codeAny_mono (G.run A X.stack s H [.ref x] [.ref x] _ L2.E0 hr e0 (.cons rfl .nil) h) fun r s' hq => ?_)
  match r, hq with
  | .error e, hq => exact False.elim ((passL (X := X.nox)) pins σ H s e s' (I.wish _) hq)
  | .ok (.ret u), hq =>
    obtain ⟨v, H', I', rv, ev, eH⟩ := I.after hq
    subst ev
    rw [eH] at I'
    obtain ⟨t, e⟩ := (show ∃ t, u = Value.str z t from rv)
    subst e
    refine wpAny_bind (wpAny_isInstance (T := "str") (b := true) rfl isSubtype_str_str ?_)
    exact wpAny_pure ⟨z, t, rfl, q s' I'⟩
theorem room_loop {A : Around} {k : Nat} (hr : RoomH (k + 2) A) (a b c d : Value) : RoomH k ((A.in1).under (.builtin "list.__repr__.loop" ⟨[a, b, c, d], []⟩)) := by
  have h1 := hr.dp
  have h2 := hr.un
  refine ⟨?_, ?_⟩
  · have e : ((A.in1).under (.builtin "list.__repr__.loop" ⟨[a, b, c, d], []⟩)).depth = A.depth + 1 := by
      have w0 : (Code.builtin "list.__repr__.loop" ⟨[a, b, c, d], []⟩).weight = 1 := by first | rfl | kernel_rfl
      show A.depth + (Code.builtin "list.__repr__.loop" ⟨[a, b, c, d], []⟩).weight = A.depth + 1
      rw [w0]
    rw [e]
    omega
  · rw [units_under_list_loop]
    show A.units + 1 + 1 + 16 * k + 200 < cLine
    omega
theorem env_loop {P : Program} {w : World} {K : Frag} {mg : Str → Option Value} {base : Heap} {A : Around} {outer : List Env} {s : Shared} {H : Hp} (e : Env0 P w K mg base A outer s H) (args : Args) : Env0 P w K mg base ((A.in1).under (.builtin "list.__repr__.loop" args)) outer s H :=
  ⟨by first | exact e.frames | (simpa [Around.under, Code.envs, Code.isFrame, pushEnvs] using e.frames), e.mod, e.bs, e.bsz, e.funs, e.frf, e.hok, e.bare⟩
theorem call_repr1 (hm : Meth X.K C "__repr__" f) (G : FnN X.prog X.w X.K X.mg X.base k f sp) (hg : X.A.guards = some []) (hr : RoomH (k + 2) X.A) : CallR X (.builtin "repr") (rRepr1 C sp) := by
  intro pins s σ H xs us Q I r h
  obtain ⟨a, x, dx, fs, z, rfl, ha, hx, hz, hsp, q⟩ := h
  obtain ⟨u, rfl, ru⟩ := r.one
  cases (show u = Value.ref a from ru)
  obtain ⟨its, n, rv, ho, _⟩ := I.lst ha
  obtain ⟨v0, rfl, rv0⟩ := rv.one
  cases (show v0 = Value.ref x from rv0)
  have hun := hr.un
  refine call_repr_slot (by omega) ⟨_, ho, rfl⟩ F.slot_list_repr.toG ?_
  refine wpAny_call (codeAny_call_builtin F.slot_list_repr.plain F.entry_list_repr (F.slot_list_repr.check _ _ _ _ _ _ _ _ ⟨_, ho, rfl⟩ (F.args_list_repr_1 _) ?_))
  refine wpAny_list_repr_head (l := []) hg (fun v rest kw hm => nomatch hm) ho rfl ?_
  refine wpAny_bind (m := newList []) (wpAny_newObj_type ?_)
  refine wpAny_pure ⟨F.quiet_list_repr_loop _, ?_⟩
  have hP : H s.heap.objs.size = none := I.hok.fresh (Nat.le_refl _)
  have I1 : L2.Inv X pins σ (upd H s.heap.objs.size (.lst [])) { s with heap := s.heap.push { cls := .type "list", data := .seq #[] }, toks := s.toks } := I.laid (t' := s.toks) (fun b u e => Heap.get?_push_of_some _ e) (Nat.le_refl _) ⟨by simp, [], 0, .nil, Heap.get?_push_size _ rfl⟩
  have s1 : Same H (upd H s.heap.objs.size (.lst [])) := Same.upd (Same.refl _) hP
  generalize hPa : s.heap.objs.size = Pa at *
  generalize hs1 : ({ s with heap := s.heap.push { cls := .type "list", data := .seq #[] }, toks := s.toks } : Shared) = st1 at I1
  have haP : a ≠ Pa := ne_of_none ha hP
  refine codeAny_builtin F.entry_list_repr_loop ?_
  show wpAny _ _ («list.__repr__.loop» ⟨[.ref a, .int 0 0, .ref Pa, .int 0 0], []⟩) _ _ _
  rw [repr_loop_tree]
  obtain ⟨its1, m1, rv1, ho1, _⟩ := I1.lst (p := a) (s1 _ _ ha)
  obtain ⟨v1, rfl, rv1'⟩ := rv1.one
  cases (show v1 = Value.ref x from rv1')
  subst hs1
  refine wpAny_bind (wpAny_listItems ho1 rfl ?_)
  simp only [show ((0 : Int).toNat) = 0 from rfl, show ([Value.ref x].toArray)[0]? = some (Value.ref x) from rfl]
  refine wpAny_bind (wpAny_holding (item_repr (b := 1) hm G (room_loop hr _ _ _ _) (by rw [units_under_list_loop]; show X.A.units + 1 + 1 < cLine; omega) (by decide) (env_loop I1.env0 _) I1 (s1 _ _ hx) (hsp _ s1) fun s2 I2 => ?_))
  refine wpAny_bind (wpAny_mkStr ?_ (by rw [sizeLine_eq]; omega))
  refine wpAny_bind ?_
  show wpAny _ _ (updateSeq Pa _) _ _ _
  obtain ⟨its2, m2, rv2, ho2, _⟩ := I2.lst (p := Pa) upd_same
  cases rv2
  refine wpAny_updateSeq ho2 rfl (wpAny_pure ⟨F.quiet_list_repr_loop _, ?_⟩) (by decide)
  have I3 := (I2.tok (s2.toks + 1)).lstUpd (p := Pa) (xs := []) (ys := [.str z]) (its := []) (its' := [Value.str z s2.toks]) (n' := m2 + 1) (f := Obj.mapSeq fun x => x.push (Value.str z s2.toks)) upd_same ho2 rfl (.cons ⟨_, rfl⟩ .nil) (by show 1 ≤ sizeLine; decide) (s2.toks + 1)
  have s3 : Same H (upd (upd H Pa (.lst [])) Pa (.lst [.str z])) := fun c o h => by
    rw [upd_ne (ne_of_none h hP), upd_ne (ne_of_none h hP)]
    exact h
  obtain ⟨its4, m4, rv4, ho4, _⟩ := I3.lst (p := a) (s3 _ _ ha)
  obtain ⟨v4, rfl, rv4'⟩ := rv4.one
  cases (show v4 = Value.ref x from rv4')
  obtain ⟨its5, m5, rv5, ho5, _⟩ := I3.lst (p := Pa) upd_same
  obtain ⟨v5, rfl, rv5'⟩ := rv5.one
  obtain ⟨t5, e5⟩ := (show ∃ t, v5 = Value.str z t from rv5')
  subst e5
  refine codeAny_builtin F.entry_list_repr_loop ?_
  show wpAny _ _ («list.__repr__.loop» ⟨[.ref a, .int 1 0, .ref Pa, .int _ 0], []⟩) _ _ _
  rw [repr_loop_tree]
  refine wpAny_bind (wpAny_listItems ho4 rfl ?_)
  simp only [show ((1 : Int).toNat) = 1 from rfl, show ([Value.ref x].toArray)[1]? = none from rfl]
  unfold reprEnd
  refine wpAny_bind (wpAny_listItems ho5 rfl ?_)
  show wpAny _ _ (forIn ((strValues [(z, t5)]).zipIdx 0) ("[" : Str) reprBody >>= _) _ _ _
  rw [repr_fold]
  refine wpAny_bind (wpAny_pure ?_)
  refine wpAny_bind (wpAny_mkStr (wpAny_pure ?_) ?_)
  · exact ⟨_, _, rfl, .str (listText [z]), _, I3.tok _, ⟨_, rfl⟩, q _ s3⟩
  · show (listText [z]).length ≤ sizeLine
    have e : listText [z] = ((Str.ofString "[" ++ Str.ofString "") ++ z) ++ Str.ofString "]" := rfl
    have e1 : (Str.ofString "[").length = 1 := by decide +kernel
    have e2 : (Str.ofString "").length = 0 := by decide +kernel
    have e3 : (Str.ofString "]").length = 1 := by decide +kernel
    rw [e]
    simp only [Str.length_append, e1, e2, e3, sizeLine_eq]
    omega
end
end Ah

/-! dict comprehensions with tuple keys -/
namespace L2
open PySem PySem.Spec PyProof.Rows
theorem d_dictSetT {X : Cx} {pins : List (Addr × Obj)} {σ : St} {H : Hp} {s : Shared} {E : Value → Shared → Prop} {D b : Addr} {kvs : List (List Key × V)} {k : List Key} {v : V} {u r : Value} {Q : Unit → Shared → Prop} (hu : X.A.units + 1 < cLine) (I : Inv X pins σ H s) (hD : H D = some (.dT kvs)) (hz : kvs.length < sizeLine)
    (hb : H b = some (.tup (k.map kV))) (ry : RelV (.ref b) u) (rv : RelV v r) (h : ∀ s', Inv X pins σ (upd H D (.dT (putK kvs k v))) s' → Q () s') : wpAny (model X.prog X.w) X.A (dictSet D u r) Q E s := by
  cases (show u = Value.ref b from ry)
  obtain ⟨z, hd, xs, rel, dd⟩ := dt_of I.hok hD
  have hzx : xs.length ≤ sizeLine := by rw [← Paired.length rel]; exact z
  have hl : (putK kvs k v).length ≤ sizeLine := by have := length_putK kvs k v; omega
  refine wpAny_dictSet_heap (hsz := hzx) (Nat.lt_of_succ_lt hu) (key_of I.hok hb) dd fun h' dd' hs => h _ ?_
  obtain ⟨q, es, ep, hq, h2, h3, h4, _, h5⟩ := dd'
  refine d_write I (by rw [hD]; exact True.intro) hs ⟨q, hq⟩ ⟨hl, hd, _, (rel.put k hb rv).keeps fun c ys ec => ?_, q, es, ep, hq, h2, h3, h4, h5⟩
  rw [upd_ne (ne_of ec hD (fun z => nomatch z))]
  exact ec
section
variable {X : Cx}
/-- {k: v for target in iter if ..}, keys tuples: D the new dict -/
def tDcT (wi : TI) (g : TG) (tt : TT) (tk tv : TE) (vs : List Nat) : TE := fun σ H Q => wi σ H fun J H1 => ∀ D, H1 D = none → ∃ W : Nat → Nat → Hp → Prop, (∃ m, W 0 m (upd H1 D (.dT []))) ∧ ∀ i m H, W i m H →
  (J.stop i H ∧ Q (.ref D) H) ∨ (J.go i H ∧ ∃ Nx : Hp → Prop, (∀ H', Nx H' → ∃ m', m' < m ∧ W (i + 1) m' H') ∧ ∀ x H', J.yld i H x H' → g x (wipe σ vs) H' fun σ2 H2 => wipe σ2 vs = wipe σ vs ∧ tt σ2 H2 fun b H3 =>
    if b = true then tk σ2 H3 fun y H4 => tv σ2 H4 fun z H5 => ∃ kvs k bq, y = .ref bq ∧ H5 bq = some (.tup (List.map kV k)) ∧ H5 D = some (.dT kvs) ∧ kvs.length < sizeLine ∧ Nx (upd H5 D (.dT (putK kvs k z))) else Nx H3)
theorem dcT_core {pins : List (Addr × Obj)} {s : Shared} {σ : St} {H : Hp} {Q : VK} {kx vx tg iter : Expr} {ifs : List Expr} {scope : Scope} {own : List (Str × Nat)} {pos pos' : Pos} {wi : TI} {g : TG} {tt : TT} {tk tv : TE} {use : Option (Value → Sem Unit)} {Qf : Value → Shared → Prop}
    (hu : X.A.units + 1 < cLine) (hc : X.calm = true) (hN : X.N.Nodup) (I : Inv X pins σ H s) (hi : PI X tg iter wi) (ok : BlkOk X.N X.env.scope scope own)
    (hg : ∀ (s : Shared) (H : Hp) (C : Addr) (cl : List (Str × Addr)) (fp : List Addr), PG (X.blk s H scope (compEnvC scope cl C X.env) fp) tg g) (ht : ∀ (s : Shared) (H : Hp) (C : Addr) (cl : List (Str × Addr)) (fp : List Addr), PTs (X.blk s H scope (compEnvC scope cl C X.env) fp) ifs tt)
    (hk : ∀ (s : Shared) (H : Hp) (C : Addr) (cl : List (Str × Addr)) (fp : List Addr), PE (X.blk s H scope (compEnvC scope cl C X.env) fp) kx tk)
    (he : ∀ (s : Shared) (H : Hp) (C : Addr) (cl : List (Str × Addr)) (fp : List Addr), PE (X.blk s H scope (compEnvC scope cl C X.env) fp) vx tv) (hs : ∀ x, foldedSetIterable iter X.env x = pure x)
    (h : tDcT wi g tt tk tv (own.map (·.2)) σ H Q)
    (hRR : ∀ D C s' m H', Inv X pins σ H' s' → Q (.ref D) H' → s'.heap.Ns C m → FpOk X pins H' C → compPost (model X.prog X.w) X.A X.xe use Qf (.ref D) C (.ok .next) s') :
    wpAny (model X.prog X.w) X.A (comprehension (.DictComp kx vx [⟨tg, iter, ifs, 0⟩] scope pos) scope X.env pos' newDict false (eval iter X.env) use) Qf X.xe s := by
  have hfree : ∀ y ∈ scope.names, y.2 = .free → ∃ c, X.env.cells.lookup y.1 = some c := fun y hy e => by
    rcases ok.free y hy e with k | k
    · exact I.ok.has _ (.inl k)
    · exact I.ok.has _ (.inr k)
  refine wpAny_comprehension_free (use := use) rfl hs (closure_ok hfree) ok.kind (fun y hy e => by rw [ok.uniq y hy, e])
    (thn (hi.run pins s σ H _ I h) fun xv s1 hx => thn hx fun itv s2 h2 => ?_)
  obtain ⟨it, fp, tn, J, H2, e, I2, T, st2, f2, q⟩ := h2
  subst e
  refine wpAny_newObj_type (newEnv_comp ?_)
  generalize hD : s2.heap.objs.size = D
  have hDn : H2 D = none := I2.hok.fresh (Nat.le_of_eq hD)
  obtain ⟨W, ⟨m0, w0⟩, turn⟩ := q D hDn
  -- the new list
  generalize hs3 : ({ s2 with heap := s2.heap.push { cls := .type "dict", data := .dict #[] } } : Shared) = s3
  have I3 : Inv X pins σ (upd H2 D (.dT [])) s3 := by
    rw [← hs3]
    refine I2.laid (t' := s2.toks) (fun b o e => Heap.get?_push_of_some _ e) (Nat.le_of_eq hD) ?_
    rw [← hD]
    exact dt_empty s2.heap I2.big
  have h3 : s3.heap = s2.heap.push { cls := .type "dict", data := .dict #[] } := by rw [← hs3]
  have sz : ∀ b ∈ fp, b < s2.heap.objs.size := fun b hb => by
    obtain ⟨o, e, _⟩ := T.obj _ _ st2 b hb
    exact Heap.lt_size e
  have f3 : ∀ b ∈ fp, FpOk X pins (upd H2 D (.dT [])) b ∧ b < s3.heap.objs.size := fun b hb => by
    have hlt := sz b hb
    refine ⟨⟨?_, (f2 b hb).2⟩, by rw [h3, Heap.size_push]; exact Nat.lt_succ_of_lt hlt⟩
    rw [upd_ne (by rw [← hD]; exact Nat.ne_of_lt hlt)]
    exact (f2 b hb).1
  have st3 : tn 0 s3.heap := T.keep _ _ _ st2 fun b _ o e => by rw [h3]; exact Heap.get?_push_of_some _ e
  have I4 := block_start I3 ok hN f3
  have pg := hg s3 (upd H2 D (.dT [])) s3.heap.objs.size (cellsFrom (s3.heap.objs.size + 1) scope.names (cloFrom X.env.cells scope.names [])) fp
  have pt := ht s3 (upd H2 D (.dT [])) s3.heap.objs.size (cellsFrom (s3.heap.objs.size + 1) scope.names (cloFrom X.env.cells scope.names [])) fp
  have pk := hk s3 (upd H2 D (.dT [])) s3.heap.objs.size (cellsFrom (s3.heap.objs.size + 1) scope.names (cloFrom X.env.cells scope.names [])) fp
  have pe := he s3 (upd H2 D (.dT [])) s3.heap.objs.size (cellsFrom (s3.heap.objs.size + 1) scope.names (cloFrom X.env.cells scope.names [])) fp
  show codeAny _ _ (.compStart (.DictComp kx vx [⟨tg, iter, ifs, 0⟩] scope pos) 0 (.ref it) (.ref D) (compEnvC scope (cellsFrom (s3.heap.objs.size + 1) scope.names (cloFrom X.env.cells scope.names [])) s3.heap.objs.size X.env)) (compPost (model X.prog X.w) X.A X.xe use Qf (.ref D) s3.heap.objs.size) { s3 with heap := pushCells (s3.heap.push { cls := .type "dict", data := .dict #[] }) scope.names }
  have nfp : ∀ b ∈ fp, (upd H2 D (.dT [])) b = none := fun b hb => (f3 b hb).1.1
  generalize hce : compEnvC scope (cellsFrom (s3.heap.objs.size + 1) scope.names (cloFrom X.env.cells scope.names [])) s3.heap.objs.size X.env = ce at I4 pg pt pk pe ⊢
  have cL : ce.locals = s3.heap.objs.size := by subst hce; rfl
  generalize hH3 : upd H2 D (.dT []) = H3 at I3 I4 pg pt pk pe w0 nfp f3
  generalize hs4 : ({ s3 with heap := pushCells (s3.heap.push { cls := .type "dict", data := .dict #[] }) scope.names } : Shared) = s4 at I4 ⊢
  have st4 : tn 0 s4.heap := T.keep _ _ _ st3 fun b _ o e => by rw [← hs4]; exact pushCells_keeps _ _ _ _ (Heap.get?_push_of_some _ e)
  have stat : ∀ {σ' : St} {H' : Hp} {s' : Shared}, Inv (X.blk s3 H3 scope ce fp) [] σ' H' s' → (∀ b ∈ fp, H' b = none) → ∀ b ∈ fp, FpOk (X.blk s3 H3 scope ce fp) [] H' b := fun {σ' H' s'} I' hn b hb =>
    ⟨hn b hb, (I'.ok.exf b hb).1, I'.ok.exfs b hb, .inl hb, fun x c e => (I'.ok.exf b hb).2 x c e, fun p hp => absurd (show p ∈ ([] : List (Addr × Obj)) ++ [] from hp) (by simp)⟩
  have loop : codeAny (model X.prog X.w) X.A (.compLoop (.DictComp kx vx [⟨tg, iter, ifs, 0⟩] scope pos) 0 (.ref it) (.ref D) ce) (compPost (model X.prog X.w) X.A X.xe use Qf (.ref D) s3.heap.objs.size) s4 := by
    refine compLoop_anyD (fun n s' => ∃ i H', Inv (X.blk s3 H3 scope ce fp) [] (wipe σ (own.map (·.2))) H' s' ∧ tn i s'.heap ∧ (∀ b ∈ fp, H' b = none) ∧ W i n H') ?_ m0 ⟨0, H3, I4, st4, nfp, w0⟩
    rintro n s5 ⟨i, H5, I5, st5, n5, w5⟩
    rcases turn i n H5 w5 with ⟨stop, qq⟩ | ⟨go, Nx, hNx, step⟩
    · have td := T.done (X.blk s3 H3 scope ce fp) rfl rfl rfl hc i [] s5 _ H5 (fun _ _ => False) I5 (stat I5 n5) st5 stop
      refine thnF td fun r s6 ⟨hr, I6⟩ => ?_
      subst hr
      -- back in the def's context
      have I7 : Inv X pins σ H5 s6 := I3.call' (ch := fp) I6.os I6.base I6.hok I6.bare fun b hb => ⟨(f3 b hb).1.2.2.2.1, (f3 b hb).1.2.1, (f3 b hb).1.2.2.2.2.1, (f3 b hb).1.2.2.2.2.2⟩
      have nC : H5 s3.heap.objs.size = none := by
        have z : H5 ce.locals = none := I6.free
        rw [cL] at z
        exact z
      obtain ⟨m, hn, _⟩ := I6.loc
      have hn : s6.heap.Ns ce.locals m := hn
      rw [cL] at hn
      exact hRR D s3.heap.objs.size s6 m H5 I7 qq hn (I3.fpOk (Nat.le_refl _) nC)
    · have ti := T.item (X.blk s3 H3 scope ce fp) rfl rfl rfl hc i [] s5 _ H5 (fun _ _ => False) I5 (stat I5 n5) st5 go
      refine thnF ti fun r s6 ⟨u, hr, h6⟩ => ?_
      subst hr
      refine thnF h6 fun _ s7 ⟨x, H7, I7, r7, y7, st7, n7⟩ => ?_
      have I7' := I7.pinned (stat I7 n7) (T.obj _ _ st7)
      refine thnF (pg.run _ s7 _ H7 x u _ I7' r7 (step x H7 y7)) fun _ s8 ⟨σ8, H8, I8, hw8, q8⟩ => ?_
      refine thnF (pt.run _ s8 σ8 H8 _ I8 q8) fun b s9 ⟨H9, I9, q9⟩ => ?_
      -- the turn's end
      have fin : ∀ {s' : Shared} {H' : Hp}, Inv (X.blk s3 H3 scope ce fp) ([] ++ pinsAt fp s7.heap) σ8 H' s' → Nx H' → ∃ m, m < n ∧ ∃ i H', Inv (X.blk s3 H3 scope ce fp) [] (wipe σ (own.map (·.2))) H' s' ∧ tn i s'.heap ∧ (∀ b ∈ fp, H' b = none) ∧ W i m H' := fun {s' H'} I' nx => by
        obtain ⟨m', hm, w'⟩ := hNx H' nx
        have pin' : ∀ b ∈ fp, ∀ o, s7.heap.get? b = some o → s'.heap.get? b = some o ∧ H' b = none := fun b hb o e =>
          let z := I'.pin (b, o) (List.mem_append_right _ (List.mem_append_right _ (mem_pinsAt hb e)))
          ⟨z.1, z.2.1⟩
        have hl : (wipe σ (own.map (·.2))).length = σ8.length := by rw [← hw8, wipe_length]
        refine ⟨m', hm, i + 1, H', (I'.unpinned (pins := [])).weak hl (fun j v e => ?_), T.keep _ _ _ st7 fun b hb o e => (pin' b hb o e).1, fun b hb => ?_, w'⟩
        · rw [← hw8] at e
          exact (wipe_some e).1
        · obtain ⟨o, e, _⟩ := T.obj _ _ st7 b hb
          exact (pin' b hb o e).2
      cases b with
      | false =>
        simp only [Bool.false_eq_true, if_false] at q9 ⊢
        exact fin I9 q9
      | true =>
        simp only [if_true] at q9 ⊢
        refine thnF (pk.run _ s9 σ8 H9 _ I9 q9) fun z s10 ⟨yk, H10, I10, r10, q10⟩ => ?_
        refine thnF (pe.run _ s10 σ8 H10 _ I10 q10) fun z2 s11 ⟨yv, H11, I11, r11, kvs, k, bq, ek, hb11, hD11, hz11, nx⟩ => ?_
        subst ek
        exact d_dictSetT (X := X.blk s3 H3 scope ce fp) hu I11 hD11 hz11 hb11 r10 r11 fun s12 I12 => fin I12 nx
  exact codeAny_compStart_dict loop (T.self X.A 0 _ _ _ st4 loop)
/-- as a value -/
theorem pe_dcT {kx vx tg iter : Expr} {ifs : List Expr} {scope : Scope} {own : List (Str × Nat)} {pos : Pos} {wi : TI} {g : TG} {tt : TT} {tk tv : TE} (hu : X.A.units + 1 < cLine) (hc : X.calm = true) (hN : X.N.Nodup) (hi : PI X tg iter wi) (ok : BlkOk X.N X.env.scope scope own)
    (hg : ∀ (s : Shared) (H : Hp) (C : Addr) (cl : List (Str × Addr)) (fp : List Addr), PG (X.blk s H scope (compEnvC scope cl C X.env) fp) tg g) (ht : ∀ (s : Shared) (H : Hp) (C : Addr) (cl : List (Str × Addr)) (fp : List Addr), PTs (X.blk s H scope (compEnvC scope cl C X.env) fp) ifs tt)
    (hk : ∀ (s : Shared) (H : Hp) (C : Addr) (cl : List (Str × Addr)) (fp : List Addr), PE (X.blk s H scope (compEnvC scope cl C X.env) fp) kx tk)
    (he : ∀ (s : Shared) (H : Hp) (C : Addr) (cl : List (Str × Addr)) (fp : List Addr), PE (X.blk s H scope (compEnvC scope cl C X.env) fp) vx tv) (hs : ∀ x, foldedSetIterable iter X.env x = pure x := by intro _; rfl) :
    PE X (.DictComp kx vx [⟨tg, iter, ifs, 0⟩] scope pos) (tDcT wi g tt tk tv (own.map (·.2))) := by
  refine ⟨fun pins s σ H Q I h => ?_⟩
  rw [arm_eval_DictComp]
  refine dcT_core hu hc hN I hi ok hg ht hk he hs h fun D C s' m H' I' q hn f => ⟨m, hn, fun h'' sb => ?_⟩
  obtain ⟨f0, f1, f2, f3, f4, f5⟩ := f
  exact ⟨.ref D, H', I'.turned (t' := s'.toks) (fun b o hb e => (sb.2 b hb).trans e) f0 f1 f3 f4 f5, rfl, q⟩

end
end L2

/-! sorted(d), d a dict whose keys are points; own &; {x!r} of data -/
namespace Ah
open PySem PySem.Spec PySem.Calls PyProof.Rows L2 He SrtO
def ptKey (p : Pt) : List Key := [Sum.inl p.1, Sum.inr p.2]
theorem pts_isKeys {H : Hp} {kvs : List (List Key × V)} {bs : List Addr} (h : IsKeys H kvs bs) : ∀ {ps : List Pt}, kvs.map (·.1) = ps.map ptKey → PtsAt H bs ps := by
  unfold IsKeys at h
  induction h with
  | nil =>
    intro ps e
    cases ps with
    | nil => exact .nil
    | cons p ps => cases e
  | @cons kv b kvs bs hb _ ih =>
    intro ps e
    cases ps with
    | nil => cases e
    | cons p ps =>
      rw [List.map_cons, List.map_cons] at e
      have e1 := List.cons.inj e
      refine .cons ?_ (ih e1.2)
      rw [e1.1] at hb
      exact hb
def rSortDT : List V → Hp → VK → Prop := fun vs H Q => ∃ (d : Addr) (kvs : List (List Key × V)) (ps : List Pt), vs = [.ref d] ∧ Rd H d (.dT kvs) ∧ kvs.map (·.1) = ps.map ptKey ∧
  ∀ r bs qs, H r = none → PtsAt H bs qs → qs.Perm ps → PtOrd qs → Q (.ref r) (upd H r (.lst (bs.map V.ref)))
section
variable {X : Cx}
theorem cr_sortDT (hc : X.calm = true) : CallR X (.builtin "sorted") rSortDT := by
  intro pins s σ H xs us Q I r h
  obtain ⟨d, kvs, ps, rfl, hd, hks, q⟩ := h
  obtain ⟨u, rfl, rx⟩ := r.one
  cases (show u = Value.ref d from rx)
  obtain ⟨z, hs, ks, pr, o, es, ep, ho, hx, hdt, he, hn⟩ := (show ObjOk X.prog X.w H s.heap d (.dT kvs) from hd.ok I.hok)
  have l1 : es.size = ks.length := size_of_entries he
  have l2 : kvs.length = ks.length := Paired.length pr
  refine Calls.call_function_entry PyProof.Rows.kind_sorted PyProof.Rows.plain_sorted PyProof.Rows.entry_sorted (PyProof.Rows.args_sorted1 _) ?_
  unfold Builtin.«sorted»
  refine wpAny_bind (m := checkCount "sorted" 1 1 _) (wpAny_pure ?_)
  refine wpAny_bind (PySem.W.kdu_collect (A := X.A.in1) (kdl_raw hs hx hdt) (I.ok.hd hc) ho (by omega) fun h' tk acc hk hacc => ?_)
  have ea : acc.toList = (ks.map fun x => x.2.1).map Value.ref := by
    have hl : acc.toList.length = ks.length := by rw [Array.length_toList, hacc.1]; exact l1
    rw [List.map_map]
    apply List.ext_getElem?
    intro j
    rw [List.getElem?_map]
    cases hj : acc.toList[j]? with
    | none =>
      have h1 := List.getElem?_eq_none_iff.mp hj
      rw [List.getElem?_eq_none (by omega)]
      all_goals rfl
    | some v =>
      obtain ⟨en, hen, hv⟩ := hacc.2 j v (by rw [← Array.getElem?_toList]; exact hj)
      have qe := entry_at he j
      rw [hen] at qe
      cases hb : ks[j]? with
      | none =>
        rw [hb] at qe
        exact nomatch (show some en = none from qe)
      | some b =>
        rw [hb] at qe
        have e2 : en = entryOfKey (tupleKind (mixKind X.prog X.w)) b := Option.some.inj qe
        rw [hv, e2]
        all_goals rfl
  have hp : PtsAt H (ks.map fun x => x.2.1) ps := pts_isKeys (isKeys_of pr) hks
  generalize hAs : (ks.map fun x => x.2.1) = as at ea hp
  have lA : as.length = ks.length := by rw [← hAs, List.length_map]
  have I1 : L2.Inv X pins σ H { s with heap := h', toks := tk } := I.kept hk
  rw [ea]
  have hzz : (as.map Value.ref).length ≤ sizeLine := by rw [List.length_map]; omega
  refine wpAny_bind (wpAny_newList ?_ hzz)
  have hoL : (h'.push (seqObj "list" (as.map Value.ref).toArray 0)).get? h'.objs.size = some (seqObj "list" (as.map Value.ref).toArray 0) := Heap.get?_push_size _ rfl
  show wpAny _ _ _ _ _ { s with heap := h'.push (seqObj "list" (as.map Value.ref).toArray 0), toks := tk }
  let k : Value → Pt := fun v => match v with | .ref a => ptOf H a | _ => (0, Str.empty)
  have hkk : ∀ v ∈ as.map Value.ref, IsPtO (h'.push (seqObj "list" (as.map Value.ref).toArray 0)) v (k v) := fun v hv => by
    obtain ⟨a, ha, rfl⟩ := List.mem_map.mp hv
    obtain ⟨_, its2, r2, o, ho, hc, n, hd⟩ := I1.hok _ _ (hp.of_mem a ha)
    obtain ⟨u1, u2, rfl, ri, rj⟩ := vals2 r2
    obtain ⟨t1, rfl⟩ := ri
    obtain ⟨t2, rfl⟩ := rj
    exact ⟨a, o, t1, t2, n, rfl, Heap.get?_push_of_some _ ho, hc, hd⟩
  refine wpAny_bind (wpAny_holding (wpAny_call_entry PyProof.Rows.slot_list_sort ⟨_, hoL, rfl⟩ PyProof.Rows.entry_list_sort
    (list_sort_ord (s := { s with heap := h'.push (seqObj "list" (as.map Value.ref).toArray 0), toks := tk }) (swo_pt k) hoL hzz (fun h2 => pts_sortable (by omega) hkk (fun o' e => ?_)) fun out h1 h2 => ⟨_, rfl, ?_⟩) (PyProof.Rows.args_list_sort _)))
  · have e' : some o' = some (seqObj "list" (as.map Value.ref).toArray 0) := e.symm.trans hoL
    cases e'
    intro c
    exact absurd (Value.type.inj c) (by decide)
  obtain ⟨bs, rfl⟩ : ∃ bs : List Addr, out = bs.map Value.ref := by
    have hm : ∀ u ∈ out, ∃ a, u = Value.ref a := fun u hu => by
      obtain ⟨a, _, e⟩ := List.mem_map.mp (h2.perm.mem_iff.mp hu)
      exact ⟨a, e.symm⟩
    clear h1 h2
    induction out with
    | nil => exact ⟨[], rfl⟩
    | cons u out ih =>
      obtain ⟨a, rfl⟩ := hm u (List.mem_cons_self)
      obtain ⟨bs, rfl⟩ := ih fun v hv => hm v (List.mem_cons_of_mem _ hv)
      exact ⟨a :: bs, rfl⟩
  have pm : bs.Perm as := by
    have z := h2.perm.map (fun v : Value => match v with | .ref a => a | _ => 0)
    rw [List.map_map, List.map_map] at z
    simpa [Function.comp_def] using z
  obtain ⟨e', he'⟩ := PyProof.Rows.sortedHeap_at (vs := as.map Value.ref) (out := (bs.map Value.ref).toArray) hoL
  refine wpAny_pure ⟨_, rfl, .ref h'.objs.size, upd H h'.objs.size (.lst (bs.map V.ref)), I1.laid (t' := tk) (fun b u e => ?_) (Nat.le_refl _) (show ObjOk X.prog X.w _ _ _ (.lst (bs.map V.ref)) from ⟨?_, bs.map Value.ref, e', Ah.vals_refs bs, he'⟩), rfl, q _ bs (bs.map (ptOf H)) (I1.hok.fresh (Nat.le_refl _)) (ptsAt_map fun a ha => hp.of_mem a (pm.mem_iff.mp ha)) ?_ ?_⟩
  · have hb : b < h'.objs.size := Heap.lt_size e
    rw [PyProof.Rows.sortedHeap_old (Nat.ne_of_lt hb) (by rw [size_push']; exact Nat.lt_succ_of_lt hb)]
    exact Heap.get?_push_of_some _ e
  · rw [List.length_map, pm.length_eq]
    omega
  · rw [← hp.map]
    exact pm.map _
  · have z : List.Pairwise _ (bs.map Value.ref) := h1
    rw [List.pairwise_map] at z
    unfold PtOrd
    rw [List.pairwise_map]
    exact z
end
end Ah

/-! own &, {x!r} of data, tuple in list, == of lists of own instances, a method with a starred parameter and no arguments -/
namespace Ah
open PySem PySem.Spec PySem.W PySem.Calls PyProof.Rows L2 He
section
variable {X : Cx} {k j : Nat} {f C : Addr} {sp : Sp} {E : XK}
/-- x & y by the own __and__ of C, both of the class C -/
def rBinO (C : Addr) (sp : Sp) (E : XK) : R2 := fun x y H Q => ∃ a dx fs b dy gs, x = .ref a ∧ y = .ref b ∧ H a = some (.ins C dx fs) ∧ H b = some (.ins C dy gs) ∧ sp [x, y] H Q E
theorem op_andO (hm : Meth X.K C "__and__" f) (hc : selfFirst X.K C = true) (F : FnB X.prog X.w X.K X.mg X.base k f sp) (hr : Rm j X.A) (hx : Passes (L2.CX X.prog X.w) X E) (hk : k ≤ j := by decide) : OpR X (binaryOp .BitAnd) (rBinO C sp E) := by
  intro pins s σ H x y v u Q I rx ry h
  obtain ⟨a, dx, fs, b, dy, gs, rfl, rfl, ha, hb, q⟩ := h
  cases (show v = Value.ref a from rx)
  cases (show u = Value.ref b from ry)
  obtain ⟨mA, O, _⟩ := ins_get I.hok ha
  obtain ⟨od, J, _⟩ := O.look
  obtain ⟨mB, O2, _⟩ := ins_get I.hok hb
  obtain ⟨od2, J2, _⟩ := O2.look
  obtain ⟨m, hF⟩ := I.fr
  refine binop_K (op := .BitAnd) hF I.ok.mod.kin J (J2.type) hc hm.at_ hm.fn ?_
  refine wpAny_mono (wpAny_call (runB (us := [.ref a, .ref b]) (vs := [.ref a, .ref b]) F (hr.mono hk) I.env0 hx I (.cons rfl (.cons rfl .nil)) q)) (fun w s' z => ?_) fun _ _ x => x
  obtain ⟨z', H', I', rz, qz⟩ := z
  have z2 : EP X pins σ Q w s' := ⟨z', H', I', rz, qz⟩
  cases w with
  | notImplemented => cases z' <;> first | exact nomatch rz | (obtain ⟨t, e⟩ := rz; exact nomatch e)
  | _ => exact z2
/-- {x!r} of data behind an address -/
def tFmtRD (K : Frag) (te : TE) : TE := fun σ H Q => te σ H fun x H1 => ∃ (a : Addr) (d : PyData), x = .ref a ∧ Dp K H1 x d ∧ d.showable = true ∧ d.hasDict = false ∧ d.depth ≤ 64 ∧ d.shown.length ≤ sizeLine ∧ Q (.str d.shown) H1
theorem pe_fmtRD {e : Expr} {te : TE} {pos : Pos} (hg : X.A.guards = some []) (hu : X.A.units + 64 < cLine) (he : PE X e te) : PE X (.FormattedValue e 114 none pos) (tFmtRD X.K te) := by
  refine ⟨fun pins s σ H Q I h => ?_⟩
  refine wpAny_FormattedValue_repr (thn (he.run pins s σ H _ I h) fun v s1 hv => ?_)
  obtain ⟨x, H1, I1, r1, a, d, rfl, hd, h1, h2, h3, h4, q⟩ := hv
  cases (show v = Value.ref a from r1)
  obtain ⟨as, rd⟩ := Dp.reads I1 d _ _ hd r1
  refine pyReprObj_of_reads rd h1 (fun z => by rw [h2] at z; cases z) hg (by omega) (fun _ _ z => z) (fun h' t tk hk => ?_) h4
  have I2 := I1.kept (t' := tk) hk
  exact wpAny_formatField_str ⟨.str d.shown, H1, I2, ⟨_, rfl⟩, q⟩ ⟨.str d.shown, H1, I2.tok _, ⟨_, rfl⟩, q⟩ h4
/-- x not in l, l a list of points -/
def rNotInP (K : Frag) : R2 := fun x y H Q => ∃ (a l : Addr) (p : Pt) (as : List Addr) (ps : List Pt), x = .ref a ∧ y = .ref l ∧ PtAt H a p ∧ SqL K H l (as.map V.ref) ∧ PtsAt H as ps ∧ Q (.bl (!decide (p ∈ ps))) H
theorem PtsAt.dps {K : Frag} {H : Hp} {as : List Addr} {ps : List Pt} (h : PtsAt H as ps) : DpAll K H (as.map V.ref) (ps.map ptD) := by
  induction h with
  | nil => exact .nil
  | cons h _ ih => exact .cons h.dp ih
theorem plain_ptD (p : Pt) : (ptD p).plain = true := rfl
theorem plainAll_pts : ∀ ps : List Pt, PyData.plainAll (ps.map ptD) = true
  | [] => rfl
  | p :: ps => by
    show ((ptD p).plain && PyData.plainAll (ps.map ptD)) = true
    rw [plain_ptD, plainAll_pts ps]
    rfl
theorem eqv_ptD (p q : Pt) : PyData.eqv (ptD p) (ptD q) = decide (p = q) := by
  obtain ⟨n, z⟩ := p
  obtain ⟨m, y⟩ := q
  show ((decide (n = m)) && ((decide (z = y)) && true)) = _
  by_cases h1 : n = m <;> by_cases h2 : z = y <;> simp [h1, h2]
theorem op_notInP (hu : X.A.units + 64 < cLine) : OpR X (compareOp .NotIn) (rNotInP X.K) := by
  intro pins s σ H x y v u Q I rx ry h
  obtain ⟨a, l, p, as, ps, rfl, rfl, hp, hl, hps, q⟩ := h
  obtain ⟨bs, r1⟩ := Dp.reads I _ _ v hp.dp rx
  have hd : Dp X.K H (.ref l) (.list (ps.map ptD)) := .lst hl hps.dps
  obtain ⟨cs, r2⟩ := Dp.reads I _ _ u hd ry
  refine SeqAt.notIn_list_data r2 r1 (plainAll_pts ps) (plain_ptD p) ?_ ?_
  · have : (ptD p).depth = 1 := rfl
    rw [this]
    have : min (PyData.depthAll (ps.map ptD)) 1 ≤ 1 := Nat.min_le_right _ _
    omega
  · have e : ((ps.map ptD).any fun y => PyData.eqv y (ptD p)) = decide (p ∈ ps) := by
      rw [List.any_map]
      apply Bool.eq_iff_iff.mpr
      simp only [List.any_eq_true, Function.comp_apply, eqv_ptD, decide_eq_true_eq]
      constructor
      · rintro ⟨x, hx, rfl⟩
        exact hx
      · intro hx
        exact ⟨p, hx, rfl⟩
    rw [e]
    exact ⟨.bl _, H, I, rfl, q⟩
end
end Ah

/-! == of two lists whose items are equal by their own __eq__ -/
namespace PySem.SeqAt
open AutoSeq1 (wpAny_loadPart')
open MeetsSeq MeetsSeq2 MeetsSeq3 SeqRoads2
section
variable {prog : Program} {w : World}
theorem eq_loopP (l b : Addr) (items items2 : Array Value) (hsz : items.size = items2.size) (P : Shared → Prop) (k : Nat) :
    ∀ i : Nat, items.size - i = k → MeetsIn prog w (Builtin.«list.__eq__.loop» ⟨[.ref l, .ref b, rawInt i, rawInt 2], []⟩)
      (fun A R s => P s ∧ (∀ s, P s → s.heap.IsList l items ∧ s.heap.IsList b items2) ∧
        (∀ j (h1 : j < items.size) (h2 : j < items2.size) s, P s → wpAny (model prog w) A.in1 (eqBool items[j] items2[j]) (fun c s' => c = true ∧ P s') (fun e s' => R (.error e) s') s) ∧
        ∀ s', P s' → R (.ok (.ret (.bool true))) s') := by
  induction k with
  | zero =>
    intro i hk A R s h
    obtain ⟨p, ls, he, h⟩ := h
    obtain ⟨⟨⟨cls, dd, data, sl⟩, hl, hc, n, hd⟩, ⟨cls2, dd2, data2, sl2⟩, hb, hc2, n2, hd2⟩ := ls s p
    simp only at hc hd hc2 hd2
    subst hc hd hc2 hd2
    obtain ⟨hp, g, d, tk, os⟩ := s
    wp_walk using wpAny_loadPart' hl, wpAny_loadPart' hb
    have hi1 : items[((i : Nat) : Int).toNat]? = none := by simp; omega
    have hi2 : items2[((i : Nat) : Int).toNat]? = none := by simp; omega
    rw [hi1, hi2]
    wp_walk using wpAny_loadPart' hl, wpAny_loadPart' hb
    show R (.ok (.ret (.bool (items.size == items2.size)))) _
    rw [hsz, beq_self_eq_true]
    exact h _ p
  | succ k ih =>
    intro i hk A R s h
    obtain ⟨p, ls, he, h⟩ := h
    obtain ⟨⟨⟨cls, dd, data, sl⟩, hl, hc, n, hd⟩, ⟨cls2, dd2, data2, sl2⟩, hb, hc2, n2, hd2⟩ := ls s p
    simp only at hc hd hc2 hd2
    subst hc hd hc2 hd2
    obtain ⟨hp, g, d, tk, os⟩ := s
    wp_walk using wpAny_loadPart' hl, wpAny_loadPart' hb
    have hlt : i < items.size := by omega
    have hlt2 : i < items2.size := by omega
    have hi1 : items[((i : Nat) : Int).toNat]? = some items[i] := by simp [hlt]
    have hi2 : items2[((i : Nat) : Int).toNat]? = some items2[i] := by simp [hlt2]
    have hc : ((i : Int) + 1) = ((i + 1 : Nat) : Int) := by push_cast; rfl
    rw [hi1, hi2]
    refine wpAny_bind (wpAny_mono (he i hlt hlt2 _ p) (fun c s' hs => ?_) fun _ _ z => z)
    obtain ⟨rfl, p'⟩ := hs
    obtain ⟨hp, g, d, tk, os⟩ := s'
    wp_walk
    rw [hc]
    exact ⟨plainId_quiet plain_eq_loop _, codeAny_builtin entry_eq_loop (by
      rw [Around.under_plainId plain_eq_loop _]
      exact ih (i + 1) (by omega) A R _ ⟨p', ls, he, h⟩)⟩
theorem list_eqP (l b : Addr) (items items2 : Array Value) (hsz : items.size = items2.size) (P : Shared → Prop) :
    MeetsIn prog w (Builtin.«list.__eq__» ⟨[.ref l, .ref b], []⟩)
      (fun A R s => P s ∧ (∀ s, P s → s.heap.IsList l items ∧ s.heap.IsList b items2) ∧
        (∀ j (h1 : j < items.size) (h2 : j < items2.size) s, P s → wpAny (model prog w) A.in1 (eqBool items[j] items2[j]) (fun c s' => c = true ∧ P s') (fun e s' => R (.error e) s') s) ∧
        ∀ s', P s' → R (.ok (.ret (.bool true))) s') := by
  intro A R s h
  obtain ⟨p, ls, he, h⟩ := h
  obtain ⟨⟨⟨cls, dd, data, sl⟩, hl, hc, n, hd⟩, ⟨cls2, dd2, data2, sl2⟩, hb, hc2, n2, hd2⟩ := ls s p
  simp only at hc hd hc2 hd2
  subst hc hd hc2 hd2
  obtain ⟨hp, g, d, tk, os⟩ := s
  have f3 := AutoSeq1.sub_list_list
  have hne : ¬ (items.size != items2.size) = true := by simp [hsz]
  wp_walk using wpAny_loadPart' hl, wpAny_loadPart' hb
  exact ⟨plainId_quiet plain_eq_loop _, codeAny_builtin entry_eq_loop (by
    rw [Around.under_plainId plain_eq_loop _]
    exact eq_loopP l b items items2 hsz P _ 0 rfl A R _ ⟨p, ls, he, h⟩)⟩
theorem rc_listsP {A : Around} {s : Shared} {E : Value → Shared → Prop} {l b : Addr} {items items2 : Array Value} {Q : Value → Shared → Prop} (P : Shared → Prop) (p : P s) (hsz : items.size = items2.size) (hu : A.units < cLine) (ls : ∀ s, P s → s.heap.IsList l items ∧ s.heap.IsList b items2)
    (he : ∀ j (h1 : j < items.size) (h2 : j < items2.size) s, P s → wpAny (model prog w) A.in1 (eqBool items[j] items2[j]) (fun c s' => c = true ∧ P s') E s) (h : ∀ s', P s' → Q (.bool true) s') : wpAny (model prog w) A (richCompare .Eq (.ref l) (.ref b)) Q E s := by
  obtain ⟨⟨⟨cls, dd, data, sl⟩, ho, hc, n, hd⟩, ⟨cls2, dd2, data2, sl2⟩, ho2, hc2, n2, hd2⟩ := ls s p
  simp only at hc hd hc2 hd2
  subst hc hd hc2 hd2
  exact wpAny_richCompare_same_room (T := "list") (op := .Eq) ⟨_, ho, rfl⟩ ⟨_, ho2, rfl⟩ F.slot_list_eq (call_meetsIn F.slot_list_eq ⟨_, ho, rfl⟩ F.entry_list_eq (F.args_list_eq_2 _ _) (list_eqP l b items items2 hsz P)
    ⟨p, ls, he, fun s' p' => show Value.bool true ≠ Value.notImplemented ∧ Q (.bool true) s' from ⟨(fun x => nomatch x), h s' p'⟩⟩) hu
end
end PySem.SeqAt
namespace Ah
open PySem PySem.Spec PySem.W PySem.Calls PyProof.Rows L2 He
section
variable {X : Cx} {k j : Nat} {f C : Addr} {sp : Sp} {E : XK}
/-- l == m, lists of instances that are equal, one by one -/
def rEqLO (K : Frag) (C : Addr) (sp : Sp) : R2 := fun x y H Q => ∃ (a b : Addr) (xs ys : List Addr), x = .ref a ∧ y = .ref b ∧ H a = some (.lst (xs.map V.ref)) ∧ H b = some (.lst (ys.map V.ref)) ∧ xs.length = ys.length ∧
  (∀ (i : Nat) u v H', Same H H' → xs[i]? = some u → ys[i]? = some v → u = v ∨ ∃ dx fs kn, H' u = some (.ins C dx fs) ∧ Is K H' (.ref v) kn ∧ PySem.W.notFirst K C kn.ty = true ∧ sp [.ref u, .ref v] H' (fun z H2 => z = .bl true ∧ Same H H2) E0) ∧ ∀ H', Same H H' → Q (.bl true) H'
theorem op_eqLO (hm : Meth X.K C "__eq__" f) (F : FnB X.prog X.w X.K X.mg X.base k f sp) (hr : Rm j X.A) (hk : k + 1 ≤ j := by decide) : OpR X (compareOp .Eq) (rEqLO X.K C sp) := by
  intro pins s σ H x y v u Q I rx ry h
  obtain ⟨a, b, xs, ys, rfl, rfl, ha, hb, hl, he, q⟩ := h
  cases (show v = Value.ref a from rx)
  cases (show u = Value.ref b from ry)
  have hr1 : Rm (k + 1) X.A := hr.mono hk
  have isl : ∀ (c : Addr) (zs : List Addr) (s' : Shared) (H' : Hp), L2.Inv X pins σ H' s' → H' c = some (.lst (zs.map V.ref)) → s'.heap.IsList c (zs.map Value.ref).toArray := fun c zs s' H' I' hc => by
    obtain ⟨its, r, p, _⟩ := I'.list (SqL.of hc)
    rw [map_unref r] at p
    exact p.isList
  refine SeqAt.rc_listsP (items := (xs.map Value.ref).toArray) (items2 := (ys.map Value.ref).toArray) (fun s' => ∃ H', L2.Inv X pins σ H' s' ∧ Same H H') ⟨H, I, Same.refl _⟩ (by simpa using hl) (hu0 hr) (fun s' ⟨H', I', s1⟩ => ⟨isl a xs s' H' I' (s1 _ _ ha), isl b ys s' H' I' (s1 _ _ hb)⟩) (fun i h1 h2 s' hs => ?_) fun s' hs => ?_
  · obtain ⟨H', I', s1⟩ := hs
    have h1' : i < xs.length := by simpa using h1
    have h2' : i < ys.length := by simpa using h2
    have e1 : (xs.map Value.ref).toArray[i] = Value.ref xs[i] := by simp
    have e2 : (ys.map Value.ref).toArray[i] = Value.ref ys[i] := by simp
    rw [e1, e2]
    unfold eqBool
    refine wpAny_holding ?_
    refine wpAny_ite_split (fun hab => ?_) (fun hab => ?_)
    · exact wpAny_bind (wpAny_rule (wpAny_pure ⟨rfl, H', I', s1⟩))
    · rcases he i xs[i] ys[i] H' s1 (List.getElem?_eq_getElem h1') (List.getElem?_eq_getElem h2') with e | ⟨dx, fs, kn, hx, hy, hn, hsp⟩
      · rw [e] at hab
        exact absurd (beq_self_eq_true _) hab
      · obtain ⟨mA, O, _⟩ := ins_get I'.hok hx
        obtain ⟨od, J, _⟩ := O.look
        obtain ⟨m, hF⟩ := I'.fr
        refine wpAny_bind (PySem.W.cmp_K (op := .Eq) (tb := kn.ty) (by exact hr.hu) hF I'.ok.mod.kin J (looks_kn I' (show L2.RelV (.ref ys[i]) (.ref ys[i]) from rfl) hy _) hn hm.at_ hm.fn ?_)
        refine wpAny_mono (wpAny_call (runB (us := [.ref xs[i], .ref ys[i]]) (vs := [.ref xs[i], .ref ys[i]]) F hr1.in1 I'.env0.in1 passL I' (.cons rfl (.cons rfl .nil)) hsp)) (fun w s' z => ?_) fun _ _ x => x
        obtain ⟨z', H2, I2, rz, ez, s2⟩ := z
        subst ez
        cases (show w = Value.bool true from rz)
        exact wpAny_truthy_bool ⟨rfl, H2, I2, s2⟩
  · obtain ⟨H', I', s1⟩ := hs
    exact ⟨.bl true, H', I', rfl, q H' s1⟩
end
section
variable {X : Cx} {k j : Nat} {f C : Addr} {sp : Sp} {E : XK} {x m : Str} {o : Expr} {ta : TE} {p pos apos : Pos}
/-- o.m(), m's def has self and a starred parameter -/
theorem pe_mtV0 {pl : Sem Bool} (he : PE X o ta) (c : Cls X.K C) (hm : Meth X.K C m f) (F : FnV X.prog X.w X.K X.mg X.base k f 1 sp) (hr : Rm j X.A) (hx : Passes (L2.CX X.prog X.w) X E) (hk : k ≤ j := by decide)
    (ht : eval (.Call (.Attribute o m apos) [] [] pos) X.env = (do
      let ov ← eval o X.env
      standAt apos.atName
      let (f, first) ← holding [ov] (getMethod ov m pl)
      callWith pos f first (backTo pos (starEach [] X.env)) (backToKw pos (keywordEach [] X.env))) := by rfl) :
    PE X (.Call (.Attribute o m apos) [] [] pos) (tMeth C m (fun vs H Q E => ∃ x, vs = [x] ∧ ∀ p, H p = none → sp [x, .ref p] (upd H p (.tup [])) Q E) [] E ta tNil) := by
  refine ⟨fun pins s σ H Q I h => PySem.W.methodCall_KW (pl := pl) (thn (he.run pins s σ H _ I h) fun u s1 ⟨x, H1, I1, rx, a, dx, fs, ex, ea, l, q⟩ => ?_) ht⟩
  subst ex
  cases (show u = Value.ref a from rx)
  obtain ⟨x, e1, q3⟩ := q
  simp only [List.append_nil, List.cons.injEq, and_true] at e1
  subst e1
  have hf : H1 s1.heap.objs.size = none := I1.hok.fresh (Nat.le_refl _)
  have I3 : L2.Inv X pins σ (upd H1 s1.heap.objs.size (.tup [])) (pushT s1 []) := by
    refine I1.laid (t' := s1.toks) (fun b u e => Heap.get?_push_of_some _ e) (Nat.le_refl _) ?_
    exact ⟨Nat.zero_le _, [], .nil, ⟨_, Heap.get?_push_size _ rfl, rfl, _, rfl⟩⟩
  refine getmeth_ok I1 ea c hm l (PySem.W.callWith_K0 (first := [.ref a]) I1.kIn hm.kp (wpAny_call (F.run X.A X.stack s1 _ [.ref a] [] [.ref a] Q E _ (hr.mono hk) I3.env0 rfl (.cons rfl .nil) I1.kIn (Nat.zero_le _) (q3 _ hf) fun res s' hq => ?_)))
  match res, hq with
  | .error e, hq => exact hx pins σ _ _ e s' I3 hq
  | .ok (.ret u), hq => exact I3.after hq
end
/-- a comprehension over a list that takes none -/
theorem lc_none {K : Frag} {tl te : TE} {tt : TT} {σ : L2.St} {i : Nat} {H : Hp} {L : Addr} {xs : List V} {Q : VK} (hL : H L = some (.lst xs))
    (hl : ∀ Q', Q' (.ref L) H → tl σ H Q')
    (ht : ∀ x G Q', x ∈ xs → Same H G → (∀ G', Same G G' → Q' false G') → tt ((wipe σ [i]).set i (some x)) G Q')
    (hw : ∀ x, wipe ((wipe σ [i]).set i (some x)) [i] = wipe σ [i])
    (q : ∀ H' D, Same H H' → H D = none → H' D = some (.lst []) → Q (.ref D) H') : tLc (iList K tl) (gName i) tt te [i] σ H Q := by
  refine hl _ ⟨L, rfl, ⟨_, SqL.of hL⟩, fun D hD => ?_⟩
  refine lc_it (walk_list (xs := xs)) (fun j H2 => H2 D = some (.lst []) ∧ Same H H2) ?_ (fun j H2 _ h => SqL.of (h.2 _ _ hL)) ?_ ?_
  · exact ⟨upd_same, Same.upd (Same.refl _) hD⟩
  · rintro j y H2 H3 hj ⟨hb, s⟩ ⟨rfl, hy⟩
    refine ⟨hw _, ht y H3 _ (List.mem_of_getElem? hy) s fun G' sG => ?_⟩
    rw [if_neg (by decide)]
    exact ⟨sG _ _ hb, s.trans sG⟩
  · rintro H2 ⟨hb, s⟩
    exact q H2 D s hD hb
section
variable {X : Cx} {k j : Nat} {f C : Addr} {sp : Sp} {E : XK}
/-- != of what is None or an instance of C -/
def rNeMO (K : Frag) (C : Addr) (sp : Sp) (E : XK) : R2 := fun x y H Q => (x = .non ∧ y = .non ∧ Q (.bl false) H) ∨ rNeO K C sp E x y H Q
theorem op_neMO (hm : Meth X.K C "__eq__" f) (hne : NoNe X.K C) (F : FnB X.prog X.w X.K X.mg X.base k f sp) (hr : Rm j X.A) (hx : Passes (L2.CX X.prog X.w) X E) (hk : k + 1 ≤ j := by decide) : OpR X (compareOp .NotEq) (rNeMO X.K C sp E) := by
  intro pins s σ H x y v u Q I rx ry h
  rcases h with ⟨rfl, rfl, q⟩ | h
  · exact op_ne pins s σ H _ _ v u Q I rx ry ⟨rfl, by rw [decide_eq_true rfl]; exact q⟩
  · exact op_neO hm hne F hr hx hk pins s σ H x y v u Q I rx ry h
end
end Ah
namespace L2
open PySem PySem.Spec PyProof.Rows
section
variable {X : Cx}
/-- x = {k: v for ..}, keys tuples -/
theorem ps_setDcT {i : Nat} {y : Str} {py : Pos} {kx vx tg iter : Expr} {ifs : List Expr} {scope : Scope} {own : List (Str × Nat)} {pos spos : Pos} {wi : TI} {g : TG} {tt : TT} {tk tv : TE} (hu : X.A.units + 1 < cLine) (hc : X.calm = true) (hN : X.N.Nodup) (hy : X.N[i]? = some y) (hyl : X.env.scope.names.lookup y = some .local)
    (hsw : swapsWith (.DictComp kx vx [⟨tg, iter, ifs, 0⟩] scope pos) (some (.Name y py)) spos.line X.env = pure true) (hi : PI X tg iter wi) (ok : BlkOk X.N X.env.scope scope own)
    (hg : ∀ (s : Shared) (H : Hp) (C : Addr) (cl : List (Str × Addr)) (fp : List Addr), PG (X.blk s H scope (compEnvC scope cl C X.env) fp) tg g) (ht : ∀ (s : Shared) (H : Hp) (C : Addr) (cl : List (Str × Addr)) (fp : List Addr), PTs (X.blk s H scope (compEnvC scope cl C X.env) fp) ifs tt)
    (hk : ∀ (s : Shared) (H : Hp) (C : Addr) (cl : List (Str × Addr)) (fp : List Addr), PE (X.blk s H scope (compEnvC scope cl C X.env) fp) kx tk)
    (he : ∀ (s : Shared) (H : Hp) (C : Addr) (cl : List (Str × Addr)) (fp : List Addr), PE (X.blk s H scope (compEnvC scope cl C X.env) fp) vx tv) (hs : ∀ x, foldedSetIterable iter X.env x = pure x := by intro _; rfl) :
    PS X (.Assign [.Name y py] (.DictComp kx vx [⟨tg, iter, ifs, 0⟩] scope pos) spos) (tAsg (tDcT wi g tt tk tv (own.map (·.2))) (gName i)) := by
  refine ⟨fun pins s σ H D I h => ?_⟩
  rw [exec_Assign_Name_used _ _ _ _ hsw]
  refine wpAny_bind (wpAny_standAt (wpAny_bind ?_))
  show wpAny _ X.A (do let _ ← comprehension (.DictComp kx vx [⟨tg, iter, ifs, 0⟩] scope pos) scope X.env (firstIterPos [⟨tg, iter, ifs, 0⟩] pos) newDict false (eval iter X.env) (some (assign (.Name y py) X.env))) _ _ s
  have h : tDcT wi g tt tk tv (own.map (·.2)) σ H (fun x H1 => gName i x σ H1 D.nx) := h
  refine wpAny_bind (thn (dcT_core (Qf := fun _ s' => SP X pins D .next s') hu hc hN I hi ok hg ht hk he hs h fun L C s' m H' I' q hn f => ?_) fun _ s' hq => wpAny_pure (wpAny_pure hq))
  show wpAny _ _ (assign (.Name y py) X.env (.ref L)) _ _ _
  refine wpAny_assign_Name (store_ok2 (v := V.ref L) I' hN hy (.inl hyl) rfl (fun s2 I2 ⟨a, sb, ha⟩ => ?_) (.inr hyl))
  obtain ⟨f0, f1, f2, f3, f4, f5⟩ := f
  have haC : C ≠ a := by
    rcases ha with z | z
    · rw [z]; exact f1
    · exact fun e => f4 y a z e.symm
  refine ⟨m, hn.sameBut sb haC, fun h3 sb3 => ?_⟩
  exact ⟨_, H', I2.turned (t' := s2.toks) (fun b o hb e => (sb3.2 b hb).trans e) f0 f1 f3 f4 f5, q⟩
theorem sw_trueD {kx vx : Expr} {gs : List Comprehension} {scope : Scope} {pos py : Pos} {y : Str} {l : Nat} {env : Env} (hk : env.scope.kind = .function) (hy : env.scope.names.lookup y = some .local) (hl : (py.line == pos.line) = true)
    (ha : (scope.names.any fun (n, k) => n == y && (k == .local || k == .cell)) = false) : swapsWith (.DictComp kx vx gs scope pos) (some (.Name y py)) l env = pure true := by
  have ky : env.kindOf y = some .local := hy
  have hb : env.blockKind = .function := by unfold Env.blockKind; rw [hk]; rfl
  unfold swapsWith
  simp only [hb, ky, ha, Expr.pos, hl]
  rfl
end
end L2

/-! dict comprehensions with two clauses, keys tuples -/
namespace L2
open PySem PySem.Spec PyProof.Rows
theorem compTurnD2_out (kx vx t0 i0 t1 i1 : Expr) (ifs0 ifs1 : List Expr) (scope : Scope) (pos : Pos) (it acc : Value) (env : Env) :
    compTurn (.DictComp kx vx [⟨t0, i0, ifs0, 0⟩, ⟨t1, i1, ifs1, 0⟩] scope pos) 0 it acc env = (do
      standAt i0.pos
      match ← pyNext it with
      | none => pure (.done .next)
      | some v =>
        letOwnedTupleGo t0 it v
        assign t0 env v
        let mut ok := true
        for c in ifs0 do
          if ok then ok ← isTrue c env (eval c env)
        if ok then
          let x ← eval i1 env
          standAt i1.pos
          let x ← foldedSetIterable i1 env x
          let _ ← runOwn (.compStart (.DictComp kx vx [⟨t0, i0, ifs0, 0⟩, ⟨t1, i1, ifs1, 0⟩] scope pos) 1 (← holding [x] (pyIter x)) acc env) env
        again (.compLoop (.DictComp kx vx [⟨t0, i0, ifs0, 0⟩, ⟨t1, i1, ifs1, 0⟩] scope pos) 0 it acc env)) := by rfl
theorem compTurnD2_in (kx vx t0 i0 t1 i1 : Expr) (ifs0 ifs1 : List Expr) (scope : Scope) (pos : Pos) (it : Value) (D : Addr) (env : Env) :
    compTurn (.DictComp kx vx [⟨t0, i0, ifs0, 0⟩, ⟨t1, i1, ifs1, 0⟩] scope pos) 1 it (.ref D) env = (do
      standAt i1.pos
      match ← pyNext it with
      | none => pure (.done .next)
      | some v =>
        letOwnedTupleGo t1 it v
        assign t1 env v
        let mut ok := true
        for c in ifs1 do
          if ok then ok ← isTrue c env (eval c env)
        if ok then
          (do
            let kv ← eval kx env
            let vv ← holding [kv] (eval vx env)
            standAt { kx.pos with endLine := vx.pos.endLine, endCol := vx.pos.endCol }
            holding [kv, vv] (dictSet D kv vv))
        again (.compLoop (.DictComp kx vx [⟨t0, i0, ifs0, 0⟩, ⟨t1, i1, ifs1, 0⟩] scope pos) 1 it (.ref D) env)) := by rfl

section
variable {prog : Program} {w : World} {A : Around} {R : Result → Shared → Prop} {s : Shared} {kx vx t0 i0 t1 i1 : Expr} {ifs0 ifs1 : List Expr} {scope : Scope} {pos : Pos} {it acc : Value} {env : Env}
/-- the loop of the first clause -/
theorem compLoopD2_out (hs : ∀ x, foldedSetIterable i1 env x = pure x) (I : Nat → Shared → Prop)
    (turn : ∀ n s, I n s → wpAny (model prog w) A (pyNext it) (fun r s₁ => match r with
      | none => R (.ok .next) s₁
      | some v => wpAny (model prog w) A (letOwnedTupleGo t0 it v) (fun _ s₁' => wpAny (model prog w) A (assign t0 env v) (fun _ s₂ =>
          wpAny (model prog w) A (forIn ifs0 true fun c r => if r = true then do let ok ← isTrue c env (eval c env); pure (ForInStep.yield ok) else pure (ForInStep.yield r)) (fun ok s₃ =>
            if ok = true then wpAny (model prog w) A (eval i1 env) (fun x s₄ => wpAny (model prog w) A (pyIter x) (fun it1 s₅ =>
              codeAny (model prog w) A (.compStart (.DictComp kx vx [⟨t0, i0, ifs0, 0⟩, ⟨t1, i1, ifs1, 0⟩] scope pos) 1 it1 acc env) (fun r s' => match r with
                | .ok _ => ∃ m, m < n ∧ I m s'
                | .error _ => False) s₅) (notedBy (model prog w) A env fun e s' => R (.error e) s') s₄) (notedBy (model prog w) A env fun e s' => R (.error e) s') s₃
            else ∃ m, m < n ∧ I m s₃) (notedBy (model prog w) A env fun e s' => R (.error e) s') s₂) (notedBy (model prog w) A env fun e s' => R (.error e) s') s₁') (notedBy (model prog w) A env fun e s' => R (.error e) s') s₁) (notedBy (model prog w) A env fun e s' => R (.error e) s') s)
    (n : Nat) (h : I n s) :
    codeAny (model prog w) A (.compLoop (.DictComp kx vx [⟨t0, i0, ifs0, 0⟩, ⟨t1, i1, ifs1, 0⟩] scope pos) 0 it acc env) R s := by
  refine codeAny_loop rfl I (fun n s hI => ?_) n h
  show wpAny _ A ((compTurn (.DictComp kx vx [⟨t0, i0, ifs0, 0⟩, ⟨t1, i1, ifs1, 0⟩] scope pos) 0 it acc env).onRaise (fun x => do noteFrame x env; theTreesLotGoes x)) _ _ s
  refine wpAny_noted ?_
  rw [compTurnD2_out]
  refine wpAny_bind (wpAny_standAt (wpAny_bind (wpAny_mono (turn n s hI) (fun r s₁ h₁ => ?_) fun _ _ h' => h')))
  cases r with
  | none => exact wpAny_pure h₁
  | some v =>
    refine wpAny_bind (wpAny_mono h₁ (fun _ s₁' h₁' => ?_) fun _ _ h' => h')
    refine wpAny_bind (wpAny_mono h₁' (fun _ s₂ h₂ => wpAny_bind (wpAny_mono h₂ (fun ok s₃ h₃ => ?_) fun _ _ h' => h')) fun _ _ h' => h')
    cases ok with
    | false => exact wpAny_pure ⟨rfl, h₃⟩
    | true =>
      refine wpAny_bind (wpAny_mono h₃ (fun x s₄ h₄ => ?_) fun _ _ h' => h')
      refine wpAny_bind (wpAny_standAt (wpAny_bind (wpAny_of_eq (hs x) (wpAny_bind (wpAny_holding (wpAny_mono h₄ (fun it1 s₅ h₅ => ?_) fun _ _ h' => h'))))))
      refine wpAny_bind (wpAny_runOwn ?_)
      rw [Around.mark_none]
      refine codeAny_mono h₅ fun r s' hr => ?_
      cases r with
      | ok f =>
        first
          | exact wpAny_pure ⟨rfl, hr⟩
          | exact wpAny_bind (wpAny_pure (wpAny_pure ⟨rfl, hr⟩))
      | error e => exact hr.elim
/-- the loop of the second -/
theorem compLoopD2_in {D : Addr} (I : Nat → Shared → Prop)
    (turn : ∀ n s, I n s → wpAny (model prog w) A (pyNext it) (fun r s₁ => match r with
      | none => R (.ok .next) s₁
      | some v => wpAny (model prog w) A (letOwnedTupleGo t1 it v) (fun _ s₁' => wpAny (model prog w) A (assign t1 env v) (fun _ s₂ =>
          wpAny (model prog w) A (forIn ifs1 true fun c r => if r = true then do let ok ← isTrue c env (eval c env); pure (ForInStep.yield ok) else pure (ForInStep.yield r)) (fun ok s₃ =>
            if ok = true then wpAny (model prog w) A (eval kx env) (fun kv s₄ => wpAny (model prog w) A (eval vx env) (fun vv s₅ =>
              wpAny (model prog w) A (dictSet D kv vv) (fun _ s₆ => ∃ m, m < n ∧ I m s₆) (notedBy (model prog w) A env fun e s' => R (.error e) s') s₅) (notedBy (model prog w) A env fun e s' => R (.error e) s') s₄) (notedBy (model prog w) A env fun e s' => R (.error e) s') s₃
            else ∃ m, m < n ∧ I m s₃) (notedBy (model prog w) A env fun e s' => R (.error e) s') s₂) (notedBy (model prog w) A env fun e s' => R (.error e) s') s₁') (notedBy (model prog w) A env fun e s' => R (.error e) s') s₁) (notedBy (model prog w) A env fun e s' => R (.error e) s') s)
    (n : Nat) (h : I n s) :
    codeAny (model prog w) A (.compLoop (.DictComp kx vx [⟨t0, i0, ifs0, 0⟩, ⟨t1, i1, ifs1, 0⟩] scope pos) 1 it (.ref D) env) R s := by
  refine codeAny_loop rfl I (fun n s hI => ?_) n h
  show wpAny _ A ((compTurn (.DictComp kx vx [⟨t0, i0, ifs0, 0⟩, ⟨t1, i1, ifs1, 0⟩] scope pos) 1 it (.ref D) env).onRaise (fun x => do noteFrame x env; theTreesLotGoes x)) _ _ s
  refine wpAny_noted ?_
  rw [compTurnD2_in]
  refine wpAny_bind (wpAny_standAt (wpAny_bind (wpAny_mono (turn n s hI) (fun r s₁ h₁ => ?_) fun _ _ h' => h')))
  cases r with
  | none => exact wpAny_pure h₁
  | some v =>
    refine wpAny_bind (wpAny_mono h₁ (fun _ s₁' h₁' => ?_) fun _ _ h' => h')
    refine wpAny_bind (wpAny_mono h₁' (fun _ s₂ h₂ => wpAny_bind (wpAny_mono h₂ (fun ok s₃ h₃ => ?_) fun _ _ h' => h')) fun _ _ h' => h')
    cases ok with
    | false => exact wpAny_pure ⟨rfl, h₃⟩
    | true =>
      exact wpAny_bind (wpAny_bind (wpAny_mono h₃ (fun kv s₄ h₄ => wpAny_bind (wpAny_holding (wpAny_mono h₄ (fun vv s₅ h₅ => wpAny_bind (wpAny_standAt (wpAny_holding (wpAny_mono h₅ (fun _ s₆ h₆ => wpAny_pure ⟨rfl, h₆⟩) fun _ _ h' => h')))) fun _ _ h' => h'))) fun _ _ h' => h'))
/-- the second clause's start -/
theorem compStartD1_ok (h0 : codeAny (model prog w) A (.compLoop (.DictComp kx vx [⟨t0, i0, ifs0, 0⟩, ⟨t1, i1, ifs1, 0⟩] scope pos) 1 it acc env) R s)
    (h : wpAny (model prog w) A (pyIter it) (fun it' s' => codeAny (model prog w) A (.compLoop (.DictComp kx vx [⟨t0, i0, ifs0, 0⟩, ⟨t1, i1, ifs1, 0⟩] scope pos) 1 it' acc env) R s')
      (notedBy (model prog w) A env fun x s' => R (.error x) s') s) :
    codeAny (model prog w) A (.compStart (.DictComp kx vx [⟨t0, i0, ifs0, 0⟩, ⟨t1, i1, ifs1, 0⟩] scope pos) 1 it acc env) R s := by
  refine codeAny_of_tree ?_
  show wpAny _ _ ((compStart (.DictComp kx vx [⟨t0, i0, ifs0, 0⟩, ⟨t1, i1, ifs1, 0⟩] scope pos) 1 it acc env).onRaise (fun x => do noteFrame x env; standAt theWindowsPlace)) _ _ s
  refine wpAny_notedAt ?_
  unfold compStart
  show wpAny _ _ (ask >>= _) _ _ s
  refine wpAny_bind (wpAny_askSetting (wpAny_ite ?_))
  split
  · first
      | exact wpAny_bind (wpAny_pure (wpAny_pure (And.intro rfl h0)))
      | exact wpAny_pure (And.intro rfl h0)
  · first
      | exact wpAny_bind (wpAny_rule (wpAny_bind (wpAny_standAt (wpAny_bind (wpAny_mono h (fun it' s' h' => wpAny_pure (And.intro rfl h')) fun _ _ x => x)))))
      | (refine wpAny_bind (wpAny_rule ?_); show wpAny _ _ (standAt i1.pos >>= _) _ _ s; exact wpAny_bind (wpAny_standAt (wpAny_bind (wpAny_mono h (fun it' s' h' => wpAny_pure (And.intro rfl h')) fun _ _ x => x))))
end

section
variable {X : Cx}
/-- {kx: vx for tg in iter if .. for tg1 in iter1 if ..}, keys tuples: behind the first clause's store and tests the second source's own loop, from which Nx is reached. vs: the block's names; vs1: those of the second target -/
def tDc2 (wi : TI) (g : TG) (tt : TT) (wi1 : TI) (g1 : TG) (tt1 : TT) (tk tv : TE) (vs vs1 : List Nat) : TE := fun σ H Q => wi σ H fun J H1 => ∀ D, H1 D = none → ∃ W : Nat → Nat → Hp → Prop, (∃ m, W 0 m (upd H1 D (.dT []))) ∧ ∀ i m H, W i m H →
  (J.stop i H ∧ Q (.ref D) H) ∨ (J.go i H ∧ ∃ Nx : Hp → Prop, (∀ H', Nx H' → ∃ m', m' < m ∧ W (i + 1) m' H') ∧ ∀ x H', J.yld i H x H' → g x (wipe σ vs) H' fun σ2 H2 => wipe σ2 vs = wipe σ vs ∧ tt σ2 H2 fun b H3 =>
    if b = true then wi1 σ2 H3 fun J1 H4 => ∃ W1 : Nat → Nat → Hp → Prop, (∃ m, W1 0 m H4) ∧ ∀ j k H, W1 j k H →
      (J1.stop j H ∧ Nx H) ∨ (J1.go j H ∧ ∃ Nx1 : Hp → Prop, (∀ H', Nx1 H' → ∃ k', k' < k ∧ W1 (j + 1) k' H') ∧ ∀ x H', J1.yld j H x H' → g1 x (wipe σ2 vs1) H' fun σ3 H5 => wipe σ3 vs1 = wipe σ2 vs1 ∧ tt1 σ3 H5 fun b H6 =>
        if b = true then tk σ3 H6 fun y H7 => tv σ3 H7 fun z H8 => ∃ kvs k bq, y = .ref bq ∧ H8 bq = some (.tup (List.map kV k)) ∧ H8 D = some (.dT kvs) ∧ kvs.length < sizeLine ∧ Nx1 (upd H8 D (.dT (putK kvs k z))) else Nx1 H6)
    else Nx H3)
theorem dc2_core {pins : List (Addr × Obj)} {s : Shared} {σ : St} {H : Hp} {Q : VK} {kx vx tg iter tg1 iter1 : Expr} {ifs ifs1 : List Expr} {scope : Scope} {own : List (Str × Nat)} {vs1 : List Nat} {pos pos' : Pos} {wi wi1 : TI} {g g1 : TG} {tt tt1 : TT} {tk tv : TE} {use : Option (Value → Sem Unit)} {Qf : Value → Shared → Prop}
    (hu : X.A.units + 1 < cLine) (hc : X.calm = true) (hN : X.N.Nodup) (I : Inv X pins σ H s) (hi : PI X tg iter wi) (ok : BlkOk X.N X.env.scope scope own) (hv : ∀ i ∈ vs1, i ∈ own.map (·.2))
    (hg : ∀ (s : Shared) (H : Hp) (C : Addr) (cl : List (Str × Addr)) (fp : List Addr), PG (X.blk s H scope (compEnvC scope cl C X.env) fp) tg g) (ht : ∀ (s : Shared) (H : Hp) (C : Addr) (cl : List (Str × Addr)) (fp : List Addr), PTs (X.blk s H scope (compEnvC scope cl C X.env) fp) ifs tt)
    (hk : ∀ (s : Shared) (H : Hp) (C : Addr) (cl : List (Str × Addr)) (fp : List Addr), PE (X.blk s H scope (compEnvC scope cl C X.env) fp) kx tk)
    (he : ∀ (s : Shared) (H : Hp) (C : Addr) (cl : List (Str × Addr)) (fp : List Addr), PE (X.blk s H scope (compEnvC scope cl C X.env) fp) vx tv) (hs : ∀ x, foldedSetIterable iter X.env x = pure x)
    (hi1 : ∀ (s : Shared) (H : Hp) (C : Addr) (cl : List (Str × Addr)) (fp : List Addr), PI (X.blk s H scope (compEnvC scope cl C X.env) fp) tg1 iter1 wi1)
    (hg1 : ∀ (s : Shared) (H : Hp) (C : Addr) (cl : List (Str × Addr)) (fp : List Addr), PG (X.blk s H scope (compEnvC scope cl C X.env) fp) tg1 g1)
    (ht1 : ∀ (s : Shared) (H : Hp) (C : Addr) (cl : List (Str × Addr)) (fp : List Addr), PTs (X.blk s H scope (compEnvC scope cl C X.env) fp) ifs1 tt1)
    (hs1 : ∀ env x, foldedSetIterable iter1 env x = pure x)
    (h : tDc2 wi g tt wi1 g1 tt1 tk tv (own.map (·.2)) vs1 σ H Q)
    (hRR : ∀ D C s' m H', Inv X pins σ H' s' → Q (.ref D) H' → s'.heap.Ns C m → FpOk X pins H' C → compPost (model X.prog X.w) X.A X.xe use Qf (.ref D) C (.ok .next) s') :
    wpAny (model X.prog X.w) X.A (comprehension (.DictComp kx vx [⟨tg, iter, ifs, 0⟩, ⟨tg1, iter1, ifs1, 0⟩] scope pos) scope X.env pos' newDict false (eval iter X.env) use) Qf X.xe s := by
  have hfree : ∀ y ∈ scope.names, y.2 = .free → ∃ c, X.env.cells.lookup y.1 = some c := fun y hy e => by
    rcases ok.free y hy e with k | k
    · exact I.ok.has _ (.inl k)
    · exact I.ok.has _ (.inr k)
  refine wpAny_comprehension_free (use := use) rfl hs (closure_ok hfree) ok.kind (fun y hy e => by rw [ok.uniq y hy, e])
    (thn (hi.run pins s σ H _ I h) fun xv s1 hx => thn hx fun itv s2 h2 => ?_)
  obtain ⟨it, fp, tn, J, H2, e, I2, T, st2, f2, q⟩ := h2
  subst e
  refine wpAny_newObj_type (newEnv_comp ?_)
  generalize hD : s2.heap.objs.size = D
  have hDn : H2 D = none := I2.hok.fresh (Nat.le_of_eq hD)
  obtain ⟨W, ⟨m0, w0⟩, turn⟩ := q D hDn
  -- the new list
  generalize hs3 : ({ s2 with heap := s2.heap.push { cls := .type "dict", data := .dict #[] } } : Shared) = s3
  have I3 : Inv X pins σ (upd H2 D (.dT [])) s3 := by
    rw [← hs3]
    refine I2.laid (t' := s2.toks) (fun b o e => Heap.get?_push_of_some _ e) (Nat.le_of_eq hD) ?_
    rw [← hD]
    exact dt_empty s2.heap I2.big
  have h3 : s3.heap = s2.heap.push { cls := .type "dict", data := .dict #[] } := by rw [← hs3]
  have sz : ∀ b ∈ fp, b < s2.heap.objs.size := fun b hb => by
    obtain ⟨o, e, _⟩ := T.obj _ _ st2 b hb
    exact Heap.lt_size e
  have f3 : ∀ b ∈ fp, FpOk X pins (upd H2 D (.dT [])) b ∧ b < s3.heap.objs.size := fun b hb => by
    have hlt := sz b hb
    refine ⟨⟨?_, (f2 b hb).2⟩, by rw [h3, Heap.size_push]; exact Nat.lt_succ_of_lt hlt⟩
    rw [upd_ne (by rw [← hD]; exact Nat.ne_of_lt hlt)]
    exact (f2 b hb).1
  have st3 : tn 0 s3.heap := T.keep _ _ _ st2 fun b _ o e => by rw [h3]; exact Heap.get?_push_of_some _ e
  have I4 := block_start I3 ok hN f3
  have pg := hg s3 (upd H2 D (.dT [])) s3.heap.objs.size (cellsFrom (s3.heap.objs.size + 1) scope.names (cloFrom X.env.cells scope.names [])) fp
  have pt := ht s3 (upd H2 D (.dT [])) s3.heap.objs.size (cellsFrom (s3.heap.objs.size + 1) scope.names (cloFrom X.env.cells scope.names [])) fp
  have pk := hk s3 (upd H2 D (.dT [])) s3.heap.objs.size (cellsFrom (s3.heap.objs.size + 1) scope.names (cloFrom X.env.cells scope.names [])) fp
  have pe := he s3 (upd H2 D (.dT [])) s3.heap.objs.size (cellsFrom (s3.heap.objs.size + 1) scope.names (cloFrom X.env.cells scope.names [])) fp
  have pi1 := hi1 s3 (upd H2 D (.dT [])) s3.heap.objs.size (cellsFrom (s3.heap.objs.size + 1) scope.names (cloFrom X.env.cells scope.names [])) fp
  have pg1 := hg1 s3 (upd H2 D (.dT [])) s3.heap.objs.size (cellsFrom (s3.heap.objs.size + 1) scope.names (cloFrom X.env.cells scope.names [])) fp
  have pt1 := ht1 s3 (upd H2 D (.dT [])) s3.heap.objs.size (cellsFrom (s3.heap.objs.size + 1) scope.names (cloFrom X.env.cells scope.names [])) fp
  show codeAny _ _ (.compStart (.DictComp kx vx [⟨tg, iter, ifs, 0⟩, ⟨tg1, iter1, ifs1, 0⟩] scope pos) 0 (.ref it) (.ref D) (compEnvC scope (cellsFrom (s3.heap.objs.size + 1) scope.names (cloFrom X.env.cells scope.names [])) s3.heap.objs.size X.env)) (compPost (model X.prog X.w) X.A X.xe use Qf (.ref D) s3.heap.objs.size) { s3 with heap := pushCells (s3.heap.push { cls := .type "dict", data := .dict #[] }) scope.names }
  have nfp : ∀ b ∈ fp, (upd H2 D (.dT [])) b = none := fun b hb => (f3 b hb).1.1
  generalize hce : compEnvC scope (cellsFrom (s3.heap.objs.size + 1) scope.names (cloFrom X.env.cells scope.names [])) s3.heap.objs.size X.env = ce at I4 pg pt pk pe pi1 pg1 pt1 ⊢
  have cL : ce.locals = s3.heap.objs.size := by subst hce; rfl
  generalize hH3 : upd H2 D (.dT []) = H3 at I3 I4 pg pt pk pe pi1 pg1 pt1 w0 nfp f3
  generalize hs4 : ({ s3 with heap := pushCells (s3.heap.push { cls := .type "dict", data := .dict #[] }) scope.names } : Shared) = s4 at I4 ⊢
  have st4 : tn 0 s4.heap := T.keep _ _ _ st3 fun b _ o e => by rw [← hs4]; exact pushCells_keeps _ _ _ _ (Heap.get?_push_of_some _ e)
  have stat : ∀ {σ' : St} {H' : Hp} {s' : Shared}, Inv (X.blk s3 H3 scope ce fp) [] σ' H' s' → (∀ b ∈ fp, H' b = none) → ∀ b ∈ fp, FpOk (X.blk s3 H3 scope ce fp) [] H' b := fun {σ' H' s'} I' hn b hb =>
    ⟨hn b hb, (I'.ok.exf b hb).1, I'.ok.exfs b hb, .inl hb, fun x c e => (I'.ok.exf b hb).2 x c e, fun p hp => absurd (show p ∈ ([] : List (Addr × Obj)) ++ [] from hp) (by simp)⟩
  have loop : codeAny (model X.prog X.w) X.A (.compLoop (.DictComp kx vx [⟨tg, iter, ifs, 0⟩, ⟨tg1, iter1, ifs1, 0⟩] scope pos) 0 (.ref it) (.ref D) ce) (compPost (model X.prog X.w) X.A X.xe use Qf (.ref D) s3.heap.objs.size) s4 := by
    refine compLoopD2_out (hs1 ce) (fun n s' => ∃ i H', Inv (X.blk s3 H3 scope ce fp) [] (wipe σ (own.map (·.2))) H' s' ∧ tn i s'.heap ∧ (∀ b ∈ fp, H' b = none) ∧ W i n H') ?_ m0 ⟨0, H3, I4, st4, nfp, w0⟩
    rintro n s5 ⟨i, H5, I5, st5, n5, w5⟩
    rcases turn i n H5 w5 with ⟨stop, qq⟩ | ⟨go, Nx, hNx, step⟩
    · have td := T.done (X.blk s3 H3 scope ce fp) rfl rfl rfl hc i [] s5 _ H5 (fun _ _ => False) I5 (stat I5 n5) st5 stop
      refine thnF td fun r s6 ⟨hr, I6⟩ => ?_
      subst hr
      -- back in the def's context
      have I7 : Inv X pins σ H5 s6 := I3.call' (ch := fp) I6.os I6.base I6.hok I6.bare fun b hb => ⟨(f3 b hb).1.2.2.2.1, (f3 b hb).1.2.1, (f3 b hb).1.2.2.2.2.1, (f3 b hb).1.2.2.2.2.2⟩
      have nC : H5 s3.heap.objs.size = none := by
        have z : H5 ce.locals = none := I6.free
        rw [cL] at z
        exact z
      obtain ⟨m, hn, _⟩ := I6.loc
      have hn : s6.heap.Ns ce.locals m := hn
      rw [cL] at hn
      exact hRR D s3.heap.objs.size s6 m H5 I7 qq hn (I3.fpOk (Nat.le_refl _) nC)
    · have ti := T.item (X.blk s3 H3 scope ce fp) rfl rfl rfl hc i [] s5 _ H5 (fun _ _ => False) I5 (stat I5 n5) st5 go
      refine thnF ti fun r s6 ⟨u, hr, h6⟩ => ?_
      subst hr
      refine thnF h6 fun _ s7 ⟨x, H7, I7, r7, y7, st7, n7⟩ => ?_
      have I7' := I7.pinned (stat I7 n7) (T.obj _ _ st7)
      refine thnF (pg.run _ s7 _ H7 x u _ I7' r7 (step x H7 y7)) fun _ s8 ⟨σ8, H8, I8, hw8, q8⟩ => ?_
      refine thnF (pt.run _ s8 σ8 H8 _ I8 q8) fun b s9 ⟨H9, I9, q9⟩ => ?_
      -- the turn's end, from any slots that know what the block knew at its start
      have fin : ∀ {σ9 : St} {s' : Shared} {H' : Hp}, Inv (X.blk s3 H3 scope ce fp) ([] ++ pinsAt fp s7.heap) σ9 H' s' → (wipe σ (own.map (·.2))).length = σ9.length → (∀ (j : Nat) v, (wipe σ (own.map (·.2)))[j]? = some (some v) → σ9[j]? = some (some v)) → Nx H' →
          ∃ m, m < n ∧ ∃ i H', Inv (X.blk s3 H3 scope ce fp) [] (wipe σ (own.map (·.2))) H' s' ∧ tn i s'.heap ∧ (∀ b ∈ fp, H' b = none) ∧ W i m H' := fun {σ9 s' H'} I' hl hk nx => by
        obtain ⟨m', hm, w'⟩ := hNx H' nx
        have pin' : ∀ b ∈ fp, ∀ o, s7.heap.get? b = some o → s'.heap.get? b = some o ∧ H' b = none := fun b hb o e =>
          let z := I'.pin (b, o) (List.mem_append_right _ (List.mem_append_right _ (mem_pinsAt hb e)))
          ⟨z.1, z.2.1⟩
        refine ⟨m', hm, i + 1, H', (I'.unpinned (pins := [])).weak hl hk, T.keep _ _ _ st7 fun b hb o e => (pin' b hb o e).1, fun b hb => ?_, w'⟩
        obtain ⟨o, e, _⟩ := T.obj _ _ st7 b hb
        exact (pin' b hb o e).2
      have hl8 : (wipe σ (own.map (·.2))).length = σ8.length := by rw [← hw8, wipe_length]
      have hk8 : ∀ (j : Nat) v, (wipe σ (own.map (·.2)))[j]? = some (some v) → σ8[j]? = some (some v) := fun j v e => by
        rw [← hw8] at e
        exact (wipe_some e).1
      have hk9 : ∀ (j : Nat) v, (wipe σ (own.map (·.2)))[j]? = some (some v) → (wipe σ8 vs1)[j]? = some (some v) := fun j v e => by
        rw [← hw8] at e
        obtain ⟨e1, e2⟩ := wipe_some e
        rw [wipe_out fun z => e2 (hv j z)]
        exact e1
      cases b with
      | false =>
        simp only [Bool.false_eq_true, if_false] at q9 ⊢
        exact fin I9 hl8 hk8 q9
      | true =>
        simp only [if_true] at q9 ⊢
        refine thnF (pi1.run _ s9 σ8 H9 _ I9 q9) fun xv s10 hx => thnF hx fun itv s11 h11 => ?_
        obtain ⟨it1, fp1, tn1, J1, H11, e1, I11, T1, st11, f11, W1, ⟨m1, w1⟩, turn1⟩ := h11
        subst e1
        -- the inner loop
        have stat1 : ∀ {H' : Hp}, (∀ b ∈ fp1, H' b = none) → ∀ b ∈ fp1, FpOk (X.blk s3 H3 scope ce fp) ([] ++ pinsAt fp s7.heap) H' b := fun hn b hb => ⟨hn b hb, (f11 b hb).2⟩
        have loop1 : codeAny (model X.prog X.w) X.A (.compLoop (.DictComp kx vx [⟨tg, iter, ifs, 0⟩, ⟨tg1, iter1, ifs1, 0⟩] scope pos) 1 (.ref it1) (.ref D) ce)
            (fun r s' => match r with
              | .ok _ => ∃ m, m < n ∧ ∃ i H', Inv (X.blk s3 H3 scope ce fp) [] (wipe σ (own.map (·.2))) H' s' ∧ tn i s'.heap ∧ (∀ b ∈ fp, H' b = none) ∧ W i m H'
              | .error _ => False) s11 := by
          refine compLoopD2_in (fun k s' => ∃ j H', Inv (X.blk s3 H3 scope ce fp) ([] ++ pinsAt fp s7.heap) (wipe σ8 vs1) H' s' ∧ tn1 j s'.heap ∧ (∀ b ∈ fp1, H' b = none) ∧ W1 j k H') ?_ m1 ⟨0, H11, I11.weak (wipe_length _ _) (fun j v e => (wipe_some e).1), st11, fun b hb => (f11 b hb).1, w1⟩
          rintro k s12 ⟨j, H12, I12, st12, n12, w12⟩
          rcases turn1 j k H12 w12 with ⟨stop1, nx1⟩ | ⟨go1, Nx1, hNx1, step1⟩
          · refine thnF (T1.done (X.blk s3 H3 scope ce fp) rfl rfl rfl hc j _ s12 (wipe σ8 vs1) H12 (fun _ _ => False) I12 (stat1 n12) st12 stop1) fun r s13 ⟨hr, I13⟩ => ?_
            subst hr
            exact fin I13 (hl8.trans (wipe_length σ8 vs1).symm) hk9 nx1
          · refine thnF (T1.item (X.blk s3 H3 scope ce fp) rfl rfl rfl hc j _ s12 (wipe σ8 vs1) H12 (fun _ _ => False) I12 (stat1 n12) st12 go1) fun r s13 ⟨u1, hr, h13⟩ => ?_
            subst hr
            refine thnF h13 fun _ s14 ⟨x1, H14, I14, r14, y14, st14, n14⟩ => ?_
            have I14' := I14.pinned (stat1 n14) (T1.obj _ _ st14)
            refine thnF (pg1.run _ s14 (wipe σ8 vs1) H14 x1 u1 _ I14' r14 (step1 x1 H14 y14)) fun _ s15 ⟨σ15, H15, I15, hw15, q15⟩ => ?_
            refine thnF (pt1.run _ s15 σ15 H15 _ I15 q15) fun b1 s16 ⟨H16, I16, q16⟩ => ?_
            have fin1 : ∀ {s' : Shared} {H' : Hp}, Inv (X.blk s3 H3 scope ce fp) (([] ++ pinsAt fp s7.heap) ++ pinsAt fp1 s14.heap) σ15 H' s' → Nx1 H' → ∃ m, m < k ∧ ∃ j H', Inv (X.blk s3 H3 scope ce fp) ([] ++ pinsAt fp s7.heap) (wipe σ8 vs1) H' s' ∧ tn1 j s'.heap ∧ (∀ b ∈ fp1, H' b = none) ∧ W1 j m H' := fun {s' H'} I' nx => by
              obtain ⟨m', hm, w'⟩ := hNx1 H' nx
              have pin' : ∀ b ∈ fp1, ∀ o, s14.heap.get? b = some o → s'.heap.get? b = some o ∧ H' b = none := fun b hb o e =>
                let z := I'.pin (b, o) (List.mem_append_right _ (List.mem_append_right _ (mem_pinsAt hb e)))
                ⟨z.1, z.2.1⟩
              refine ⟨m', hm, j + 1, H', I'.unpinned.weak (by rw [← hw15, wipe_length]) (fun j v e => by rw [← hw15] at e; exact (wipe_some e).1), T1.keep _ _ _ st14 fun b hb o e => (pin' b hb o e).1, fun b hb => ?_, w'⟩
              obtain ⟨o, e, _⟩ := T1.obj _ _ st14 b hb
              exact (pin' b hb o e).2
            cases b1 with
            | false =>
              simp only [Bool.false_eq_true, if_false] at q16 ⊢
              exact fin1 I16 q16
            | true =>
              simp only [if_true] at q16 ⊢
              refine thnF (pk.run _ s16 σ15 H16 _ I16 q16) fun z s17 ⟨yk, H17, I17, r17, q17⟩ => ?_
              refine thnF (pe.run _ s17 σ15 H17 _ I17 q17) fun z2 s18 ⟨yv, H18, I18, r18, kvs, k, bq, ek, hb18, hD18, hz18, nx⟩ => ?_
              subst ek
              exact d_dictSetT (X := X.blk s3 H3 scope ce fp) hu I18 hD18 hz18 hb18 r17 r18 fun s19 I19 => fin1 I19 nx
        exact compStartD1_ok loop1 (T1.self X.A 0 _ _ _ st11 loop1)
  exact codeAny_compStart_dict loop (T.self X.A 0 _ _ _ st4 loop)
/-- as a value -/
theorem pe_dc2 {kx vx tg iter tg1 iter1 : Expr} {ifs ifs1 : List Expr} {scope : Scope} {own : List (Str × Nat)} {vs1 : List Nat} {pos : Pos} {wi wi1 : TI} {g g1 : TG} {tt tt1 : TT} {tk tv : TE} (hu : X.A.units + 1 < cLine) (hc : X.calm = true) (hN : X.N.Nodup) (hi : PI X tg iter wi) (ok : BlkOk X.N X.env.scope scope own) (hv : ∀ i ∈ vs1, i ∈ own.map (·.2))
    (hg : ∀ (s : Shared) (H : Hp) (C : Addr) (cl : List (Str × Addr)) (fp : List Addr), PG (X.blk s H scope (compEnvC scope cl C X.env) fp) tg g) (ht : ∀ (s : Shared) (H : Hp) (C : Addr) (cl : List (Str × Addr)) (fp : List Addr), PTs (X.blk s H scope (compEnvC scope cl C X.env) fp) ifs tt)
    (hi1 : ∀ (s : Shared) (H : Hp) (C : Addr) (cl : List (Str × Addr)) (fp : List Addr), PI (X.blk s H scope (compEnvC scope cl C X.env) fp) tg1 iter1 wi1)
    (hg1 : ∀ (s : Shared) (H : Hp) (C : Addr) (cl : List (Str × Addr)) (fp : List Addr), PG (X.blk s H scope (compEnvC scope cl C X.env) fp) tg1 g1) (ht1 : ∀ (s : Shared) (H : Hp) (C : Addr) (cl : List (Str × Addr)) (fp : List Addr), PTs (X.blk s H scope (compEnvC scope cl C X.env) fp) ifs1 tt1)
    (hk : ∀ (s : Shared) (H : Hp) (C : Addr) (cl : List (Str × Addr)) (fp : List Addr), PE (X.blk s H scope (compEnvC scope cl C X.env) fp) kx tk)
    (he : ∀ (s : Shared) (H : Hp) (C : Addr) (cl : List (Str × Addr)) (fp : List Addr), PE (X.blk s H scope (compEnvC scope cl C X.env) fp) vx tv) (hs : ∀ x, foldedSetIterable iter X.env x = pure x := by intro _; rfl) (hs1 : ∀ env x, foldedSetIterable iter1 env x = pure x := by intro _ _; rfl) :
    PE X (.DictComp kx vx [⟨tg, iter, ifs, 0⟩, ⟨tg1, iter1, ifs1, 0⟩] scope pos) (tDc2 wi g tt wi1 g1 tt1 tk tv (own.map (·.2)) vs1) := by
  refine ⟨fun pins s σ H Q I h => ?_⟩
  rw [arm_eval_DictComp]
  refine dc2_core hu hc hN I hi ok hv hg ht hk he hs hi1 hg1 ht1 hs1 h fun D C s' m H' I' q hn f => ⟨m, hn, fun h'' sb => ?_⟩
  obtain ⟨f0, f1, f2, f3, f4, f5⟩ := f
  exact ⟨.ref D, H', I'.turned (t' := s'.toks) (fun b o hb e => (sb.2 b hb).trans e) f0 f1 f3 f4 f5, rfl, q⟩
theorem ps_setDc2 {i : Nat} {y : Str} {py : Pos} {kx vx tg iter tg1 iter1 : Expr} {ifs ifs1 : List Expr} {scope : Scope} {own : List (Str × Nat)} {vs1 : List Nat} {pos spos : Pos} {wi wi1 : TI} {g g1 : TG} {tt tt1 : TT} {tk tv : TE} (hu : X.A.units + 1 < cLine) (hc : X.calm = true) (hN : X.N.Nodup) (hy : X.N[i]? = some y) (hyl : X.env.scope.names.lookup y = some .local)
    (hsw : swapsWith (.DictComp kx vx [⟨tg, iter, ifs, 0⟩, ⟨tg1, iter1, ifs1, 0⟩] scope pos) (some (.Name y py)) spos.line X.env = pure true) (hi : PI X tg iter wi) (ok : BlkOk X.N X.env.scope scope own) (hv : ∀ i ∈ vs1, i ∈ own.map (·.2))
    (hg : ∀ (s : Shared) (H : Hp) (C : Addr) (cl : List (Str × Addr)) (fp : List Addr), PG (X.blk s H scope (compEnvC scope cl C X.env) fp) tg g) (ht : ∀ (s : Shared) (H : Hp) (C : Addr) (cl : List (Str × Addr)) (fp : List Addr), PTs (X.blk s H scope (compEnvC scope cl C X.env) fp) ifs tt)
    (hi1 : ∀ (s : Shared) (H : Hp) (C : Addr) (cl : List (Str × Addr)) (fp : List Addr), PI (X.blk s H scope (compEnvC scope cl C X.env) fp) tg1 iter1 wi1)
    (hg1 : ∀ (s : Shared) (H : Hp) (C : Addr) (cl : List (Str × Addr)) (fp : List Addr), PG (X.blk s H scope (compEnvC scope cl C X.env) fp) tg1 g1) (ht1 : ∀ (s : Shared) (H : Hp) (C : Addr) (cl : List (Str × Addr)) (fp : List Addr), PTs (X.blk s H scope (compEnvC scope cl C X.env) fp) ifs1 tt1)
    (hk : ∀ (s : Shared) (H : Hp) (C : Addr) (cl : List (Str × Addr)) (fp : List Addr), PE (X.blk s H scope (compEnvC scope cl C X.env) fp) kx tk)
    (he : ∀ (s : Shared) (H : Hp) (C : Addr) (cl : List (Str × Addr)) (fp : List Addr), PE (X.blk s H scope (compEnvC scope cl C X.env) fp) vx tv) (hs : ∀ x, foldedSetIterable iter X.env x = pure x := by intro _; rfl) (hs1 : ∀ env x, foldedSetIterable iter1 env x = pure x := by intro _ _; rfl) :
    PS X (.Assign [.Name y py] (.DictComp kx vx [⟨tg, iter, ifs, 0⟩, ⟨tg1, iter1, ifs1, 0⟩] scope pos) spos) (tAsg (tDc2 wi g tt wi1 g1 tt1 tk tv (own.map (·.2)) vs1) (gName i)) := by
  refine ⟨fun pins s σ H D I h => ?_⟩
  rw [exec_Assign_Name_used _ _ _ _ hsw]
  refine wpAny_bind (wpAny_standAt (wpAny_bind ?_))
  show wpAny _ X.A (do let _ ← comprehension (.DictComp kx vx [⟨tg, iter, ifs, 0⟩, ⟨tg1, iter1, ifs1, 0⟩] scope pos) scope X.env (firstIterPos [⟨tg, iter, ifs, 0⟩, ⟨tg1, iter1, ifs1, 0⟩] pos) newDict false (eval iter X.env) (some (assign (.Name y py) X.env))) _ _ s
  have h : tDc2 wi g tt wi1 g1 tt1 tk tv (own.map (·.2)) vs1 σ H (fun x H1 => gName i x σ H1 D.nx) := h
  refine wpAny_bind (thn (dc2_core (Qf := fun _ s' => SP X pins D .next s') hu hc hN I hi ok hv hg ht hk he hs hi1 hg1 ht1 hs1 h fun L C s' m H' I' q hn f => ?_) fun _ s' hq => wpAny_pure (wpAny_pure hq))
  show wpAny _ _ (assign (.Name y py) X.env (.ref L)) _ _ _
  refine wpAny_assign_Name (store_ok2 (v := V.ref L) I' hN hy (.inl hyl) rfl (fun s2 I2 ⟨a, sb, ha⟩ => ?_) (.inr hyl))
  obtain ⟨f0, f1, f2, f3, f4, f5⟩ := f
  have haC : C ≠ a := by
    rcases ha with z | z
    · rw [z]; exact f1
    · exact fun e => f4 y a z e.symm
  refine ⟨m, hn.sameBut sb haC, fun h3 sb3 => ?_⟩
  exact ⟨_, H', I2.turned (t' := s2.toks) (fun b o hb e => (sb3.2 b hb).trans e) f0 f1 f3 f4 f5, q⟩
end
end L2

/-! lists of the same things compared; counting comprehensions; dicts of points -/
namespace Ah
open PySem PySem.Spec PyProof.Rows L2 He
section
variable {X : Cx} {j : Nat}
/-- l != m, two lists of the very same things -/
def rNeSame : R2 := fun x y H Q => ∃ (a b : Addr) (xs : List Addr), x = .ref a ∧ y = .ref b ∧ H a = some (.lst (xs.map V.ref)) ∧ H b = some (.lst (xs.map V.ref)) ∧ Q (.bl false) H
theorem op_neSame (hr : Rm j X.A) : OpR X (compareOp .NotEq) rNeSame := by
  intro pins s σ H x y v u Q I rx ry h
  obtain ⟨a, b, xs, rfl, rfl, ha, hb, q⟩ := h
  cases (show v = Value.ref a from rx)
  cases (show u = Value.ref b from ry)
  have isl : ∀ (c : Addr), H c = some (.lst (xs.map V.ref)) → s.heap.IsList c (xs.map Value.ref).toArray := fun c hc => by
    obtain ⟨its, r, p, _⟩ := I.list (SqL.of hc)
    rw [map_unref r] at p
    exact p.isList
  have z := SeqAt.RcNeAt.lists (A := X.A) (e := fun _ => true) (isl a ha) (isl b hb) rfl (hu0 hr) fun i h1 h2 => SeqAt.EqAt.same _
  refine z X.prog X.w _ _ ?_
  have e : (!(List.range (xs.map Value.ref).toArray.size).all fun _ => true) = false := by simp
  rw [e]
  exact ⟨.bl false, H, I, rfl, q⟩
end
/-- how many things a comprehension keeps -/
theorem lc_count {K : Frag} {tl te : TE} {tt : TT} {σ : L2.St} {i : Nat} {H : Hp} {L : Addr} {xs : List V} {cs : List Bool} {Q : VK} (hL : H L = some (.lst xs)) (hc : cs.length = xs.length) (few : xs.length ≤ 1000000)
    (hl : ∀ Q', Q' (.ref L) H → tl σ H Q')
    (ht : ∀ (j : Nat) x b G Q', xs[j]? = some x → cs[j]? = some b → Same H G → (∀ G', Same G G' → Q' b G') → tt ((wipe σ [i]).set i (some x)) G Q')
    (he : ∀ x G Q', Q' x G → te ((wipe σ [i]).set i (some x)) G Q')
    (hw : ∀ x, wipe ((wipe σ [i]).set i (some x)) [i] = wipe σ [i])
    (q : ∀ H' D ys, Same H H' → H D = none → H' D = some (.lst ys) → ys.length = cs.count true → Q (.ref D) H') : tLc (iList K tl) (gName i) tt te [i] σ H Q := by
  refine hl _ ⟨L, rfl, ⟨_, SqL.of hL⟩, fun D hD => ?_⟩
  refine lc_it (walk_list (xs := xs)) (fun j H2 => (∃ ys, H2 D = some (.lst ys) ∧ ys.length = (cs.take j).count true ∧ ys.length ≤ j) ∧ Same H H2) ?_ (fun j H2 _ h => SqL.of (h.2 _ _ hL)) ?_ ?_
  · exact ⟨⟨[], upd_same, by simp, Nat.le_refl _⟩, Same.upd (Same.refl _) hD⟩
  · rintro j y H2 H3 hj ⟨⟨ys, hb, e, le⟩, s⟩ ⟨rfl, hy⟩
    have hj' : j < cs.length := by omega
    have et : cs.take (j + 1) = cs.take j ++ [cs[j]] := by
      rw [List.take_add_one, List.getElem?_eq_getElem hj']
      rfl
    refine ⟨hw _, ht j y cs[j] H3 _ hy (List.getElem?_eq_getElem hj') s fun G' sG => ?_⟩
    cases eb : cs[j] with
    | false =>
      rw [if_neg (by decide)]
      refine ⟨⟨ys, sG _ _ hb, ?_, by omega⟩, s.trans sG⟩
      rw [et, List.count_append, eb, e]
      simp
    | true =>
      rw [if_pos rfl]
      refine he y G' _ ⟨ys, sG _ _ hb, by rw [sizeLine_eq]; omega, ⟨ys ++ [y], upd_same, ?_, ?_⟩, fun b o hbo => ?_⟩
      · rw [et, List.count_append, eb, List.length_append, e]
        simp
      · rw [List.length_append]
        simp
        omega
      · rw [upd_ne (ne_of_none hbo hD)]
        exact (s.trans sG) _ _ hbo
  · rintro H2 ⟨⟨ys, hb, e, le⟩, s⟩
    rw [← hc, List.take_length] at e
    exact q H2 D ys s hD hb e
theorem putK_keys {κ : Type} [DecidableEq κ] (kvs : List (κ × V)) (k : κ) (v : V) : (putK kvs k v).map (·.1) = if k ∈ kvs.map (·.1) then kvs.map (·.1) else kvs.map (·.1) ++ [k] := by
  by_cases h : k ∈ kvs.map (·.1)
  · rw [if_pos h]
    obtain ⟨p, hp, rfl⟩ := List.mem_map.mp h
    have ha : kvs.any (fun x => x.1 = p.1) = true := List.any_eq_true.mpr ⟨p, hp, by simp⟩
    unfold putK
    simp only [ha, if_true]
    rw [List.map_map]
    apply List.map_congr_left
    intro x hx
    simp only [Function.comp_apply]
    split
    · rename_i e2
      simp_all
    · rfl
  · rw [if_neg h]
    have ha : kvs.any (fun x => x.1 = k) = false := by
      rw [Bool.eq_false_iff]
      intro z
      obtain ⟨x, hx, e⟩ := List.any_eq_true.mp z
      exact h (List.mem_map.mpr ⟨x, hx, by simpa using e⟩)
    unfold putK
    simp [ha]
theorem ptKey_inj {p q : Pt} (h : ptKey p = ptKey q) : p = q := by
  obtain ⟨n, z⟩ := p
  obtain ⟨m, y⟩ := q
  simp only [ptKey, List.cons.injEq, Sum.inl.injEq, Sum.inr.injEq, and_true] at h
  rw [h.1, h.2]
theorem ptKey_mem {p : Pt} {us : List Pt} : ptKey p ∈ us.map ptKey ↔ p ∈ us := by
  constructor
  · intro h
    obtain ⟨q, hq, e⟩ := List.mem_map.mp h
    rw [← ptKey_inj e]
    exact hq
  · exact fun h => List.mem_map.mpr ⟨p, h, rfl⟩
/-- a dict whose keys are the points put so far -/
def Dk (D : Addr) (H : Hp) (put : List Pt) (H2 : Hp) : Prop := ∃ (kvs : List (List Key × V)) (us : List Pt), H2 D = some (.dT kvs) ∧ kvs.map (·.1) = us.map ptKey ∧ us.Nodup ∧ (∀ p, p ∈ us ↔ p ∈ put) ∧ us.length ≤ put.length ∧ Same H H2
theorem Dk.nil {D : Addr} {H : Hp} (hD : H D = none) : Dk D H [] (upd H D (.dT [])) := ⟨[], [], upd_same, rfl, List.nodup_nil, fun p => Iff.rfl, Nat.le_refl _, Same.upd (Same.refl _) hD⟩
theorem Dk.same {D : Addr} {H H2 H3 : Hp} {put : List Pt} (h : Dk D H put H2) (s : Same H2 H3) : Dk D H put H3 := by
  obtain ⟨kvs, us, h1, h2, h3, h4, h5, h6⟩ := h
  exact ⟨kvs, us, s _ _ h1, h2, h3, h4, h5, h6.trans s⟩
theorem Dk.put {D : Addr} {H H2 : Hp} {put : List Pt} {a : Addr} {p : Pt} {v : V} (h : Dk D H put H2) (hD : H D = none) (few : put.length ≤ 100000) (ha : PtAt H2 a p) :
    ∃ kvs k bq, V.ref a = .ref bq ∧ H2 bq = some (.tup (List.map kV k)) ∧ H2 D = some (.dT kvs) ∧ kvs.length < sizeLine ∧ Dk D H (put ++ [p]) (upd H2 D (.dT (putK kvs k v))) := by
  obtain ⟨kvs, us, h1, hks, hnd, hm, hlen, s⟩ := h
  have hl : kvs.length = us.length := by
    have z := congrArg List.length hks
    simpa using z
  refine ⟨kvs, ptKey p, a, rfl, ha, h1, by rw [sizeLine_eq]; omega, ?_⟩
  have sm : Same H (upd H2 D (.dT (putK kvs (ptKey p) v))) := fun b o hbo => by
    rw [upd_ne (ne_of_none hbo hD)]
    exact s _ _ hbo
  by_cases hpu : p ∈ us
  · refine ⟨_, us, upd_same, ?_, hnd, fun r => ?_, by rw [List.length_append]; simp; omega, sm⟩
    · rw [putK_keys, hks, if_pos (ptKey_mem.mpr hpu)]
    · rw [hm r, List.mem_append, List.mem_singleton]
      constructor
      · exact .inl
      · rintro (h | rfl)
        · exact h
        · exact (hm r).mp hpu
  · refine ⟨_, us ++ [p], upd_same, ?_, ?_, fun r => ?_, by simp only [List.length_append, List.length_singleton]; omega, sm⟩
    · rw [putK_keys, hks, if_neg (fun h => hpu (ptKey_mem.mp h)), List.map_append]
      rfl
    · rw [List.nodup_append]
      refine ⟨hnd, by simp, fun x hx y hy => ?_⟩
      rw [List.mem_singleton] at hy
      subst hy
      exact fun e => hpu (e ▸ hx)
    · rw [List.mem_append, List.mem_append, hm r]
theorem two_len : ∀ es : List (Pt × Pt), (es.flatMap fun e => [e.1, e.2]).length = 2 * es.length
  | [] => rfl
  | e :: r => by
    have := two_len r
    simp only [List.flatMap_cons, List.length_append, List.length_cons, List.length_nil]
    omega
/-- {p: .. for x in list for p in (two points)} -/
theorem dc2_pts {K : Frag} {tl tp tk tv : TE} {σ : L2.St} {i j : Nat} {H : Hp} {L : Addr} {xs : List V} {es : List (Pt × Pt)} {w : V} {Q : VK} (hL : H L = some (.lst xs)) (hlen : es.length = xs.length) (few : xs.length ≤ 10000)
    (hl : ∀ Q', Q' (.ref L) H → tl σ H Q')
    (hp : ∀ (n : Nat) x e G Q', xs[n]? = some x → es[n]? = some e → Same H G → (∀ r a b G', Same G G' → G r = none → G' r = some (.tup [.ref a, .ref b]) → PtAt G' a e.1 → PtAt G' b e.2 → Q' (.ref r) G') → tp ((wipe σ [i, j]).set i (some x)) G Q')
    (hk : ∀ x a G Q', Q' (.ref a) G → tk ((wipe ((wipe σ [i, j]).set i (some x)) [j]).set j (some (.ref a))) G Q')
    (hv : ∀ x a G Q', Q' w G → tv ((wipe ((wipe σ [i, j]).set i (some x)) [j]).set j (some (.ref a))) G Q')
    (hw : ∀ x, wipe ((wipe σ [i, j]).set i (some x)) [i, j] = wipe σ [i, j])
    (hw2 : ∀ x y, wipe ((wipe ((wipe σ [i, j]).set i (some x)) [j]).set j (some y)) [j] = wipe ((wipe σ [i, j]).set i (some x)) [j])
    (q : ∀ H' D (kvs : List (List Key × V)) (us : List Pt), Same H H' → H D = none → H' D = some (.dT kvs) → kvs.map (·.1) = us.map ptKey → us.Nodup → (∀ p, p ∈ us ↔ p ∈ es.flatMap fun e => [e.1, e.2]) → us.length ≤ 2 * es.length → Q (.ref D) H') :
    tDc2 (iList K tl) (gName i) tYes (iTup K tp) (gName j) tYes tk tv [i, j] [j] σ H Q := by
  refine hl _ ⟨L, rfl, ⟨_, SqL.of hL⟩, fun D hD => ?_⟩
  have wk := walk_list (K := K) (a := L) (xs := xs)
  let fl : Nat → List Pt := fun n => (es.take n).flatMap fun e => [e.1, e.2]
  have fl1 : ∀ {n : Nat} {e : Pt × Pt}, es[n]? = some e → fl (n + 1) = fl n ++ [e.1, e.2] := fun {n e} h => by
    show (es.take (n + 1)).flatMap _ = _
    rw [List.take_add_one, h]
    simp [fl]
  have fll : ∀ n, (fl n).length ≤ 2 * n := fun n => by
    show ((es.take n).flatMap _).length ≤ _
    rw [two_len]
    have : (es.take n).length ≤ n := List.length_take_le _ _
    omega
  refine ⟨fun n m H2 => m = xs.length - n ∧ n ≤ xs.length ∧ Dk D H (fl n) H2, ⟨xs.length, by simp, Nat.zero_le _, .nil hD⟩, ?_⟩
  rintro n m H2 ⟨rfl, hn, dk⟩
  have s2 : Same H H2 := by
    obtain ⟨_, _, _, _, _, _, _, s⟩ := dk
    exact s
  have hsq : SqL K H2 L xs := SqL.of (s2 _ _ hL)
  by_cases hlt : n < xs.length
  · refine .inr ⟨wk.goes n H2 hlt hsq, fun H' => Dk D H (fl (n + 1)) H', fun H' p' => ⟨xs.length - (n + 1), by omega, rfl, hlt, p'⟩, fun x H3 y => ?_⟩
    obtain ⟨rfl, hy⟩ := wk.yields n H2 x H3 hlt hsq y
    have he : es[n]? = some es[n] := List.getElem?_eq_getElem (by omega)
    refine ⟨hw _, ?_⟩
    dsimp only [tYes]
    rw [if_pos rfl]
    refine hp n x es[n] H3 _ hy he s2 fun r a b G sG nr hr ha hb => ?_
    refine ⟨r, rfl, ⟨_, SqT.of hr⟩, ?_⟩
    have wt := walk_tup (K := K) (a := r) (xs := [.ref a, .ref b])
    let mid : Nat → List Pt := fun k => fl n ++ [es[n].1, es[n].2].take k
    refine ⟨fun k m' H4 => m' = 2 - k ∧ k ≤ 2 ∧ Dk D H (mid k) H4 ∧ Tk G H4, ⟨2, rfl, Nat.zero_le _, ?_, .same (Same.refl _)⟩, ?_⟩
    · show Dk D H (fl n ++ []) G
      rw [List.append_nil]
      exact dk.same sG
    rintro k m' H4 ⟨rfl, hk2, dk4, tk4⟩
    have hr4 : SqT K H4 r [.ref a, .ref b] := SqT.of (tk4 _ _ hr)
    by_cases hk1 : k < 2
    · refine .inr ⟨wt.goes k H4 hk1 hr4, fun H' => Dk D H (mid (k + 1)) H' ∧ Tk G H', fun H' p' => ⟨2 - (k + 1), by omega, rfl, hk1, p'⟩, fun y H5 yy => ?_⟩
      obtain ⟨rfl, hy5⟩ := wt.yields k H4 y H5 hk1 hr4 yy
      have key : ∃ (c : Addr) (s : Pt), y = .ref c ∧ PtAt H5 c s ∧ mid (k + 1) = mid k ++ [s] := by
        rcases (show k = 0 ∨ k = 1 by omega) with rfl | rfl
        · simp at hy5
          exact ⟨a, es[n].1, hy5.symm, tk4 _ _ ha, by simp [mid]⟩
        · simp at hy5
          exact ⟨b, es[n].2, hy5.symm, tk4 _ _ hb, by simp [mid]⟩
      obtain ⟨c, s, rfl, hc, em⟩ := key
      refine ⟨hw2 _ _, ?_⟩
      dsimp only [tYes]
      rw [if_pos rfl]
      refine hk x c H5 _ (hv x c H5 _ ?_)
      have lm : (mid k).length ≤ 100000 := by
        have := fll n
        simp only [mid, List.length_append, List.length_take]
        omega
      obtain ⟨kvs, kk, bq, e1, e2, e3, e4, e5⟩ := dk4.put (v := w) hD lm hc
      refine ⟨kvs, kk, bq, e1, e2, e3, e4, by rw [em]; exact e5, tk4.trans (Tk.upd e3 (fun xs z => by cases z))⟩
    · have ek : k = 2 := by omega
      subst ek
      refine .inl ⟨wt.stops H4 hr4, ?_⟩
      have : mid 2 = fl (n + 1) := by
        rw [fl1 he]
        rfl
      rw [← this]
      exact dk4
  · have e : n = xs.length := by omega
    subst e
    obtain ⟨kvs, us, h1, h2, h3, h4, h5, h6⟩ := dk
    have et : fl xs.length = es.flatMap fun e => [e.1, e.2] := by
      show (es.take xs.length).flatMap _ = _
      rw [← hlen, List.take_length]
    rw [et] at h4 h5
    have hl2 : us.length ≤ 2 * es.length := by
      rw [two_len] at h5
      exact h5
    exact .inl ⟨wk.stops H2 hsq, q H2 D kvs us h6 hD h1 h2 h3 h4 hl2⟩
/-- .. the list made on the way -/
theorem dc2_ptsM {K : Frag} {tl tp tk tv : TE} {σ : L2.St} {i j : Nat} {H : Hp} {xs : List V} {es : List (Pt × Pt)} {w : V} {Q : VK} (hlen : es.length = xs.length) (few : xs.length ≤ 10000)
    (hl : ∀ Q' : VK, (∀ G L, Same H G → G L = some (.lst xs) → Q' (.ref L) G) → tl σ H Q')
    (hp : ∀ (n : Nat) x e G Q', xs[n]? = some x → es[n]? = some e → Same H G → (∀ r a b G', Same G G' → G r = none → G' r = some (.tup [.ref a, .ref b]) → PtAt G' a e.1 → PtAt G' b e.2 → Q' (.ref r) G') → tp ((wipe σ [i, j]).set i (some x)) G Q')
    (hk : ∀ x a G Q', Q' (.ref a) G → tk ((wipe ((wipe σ [i, j]).set i (some x)) [j]).set j (some (.ref a))) G Q')
    (hv : ∀ x a G Q', Q' w G → tv ((wipe ((wipe σ [i, j]).set i (some x)) [j]).set j (some (.ref a))) G Q')
    (hw : ∀ x, wipe ((wipe σ [i, j]).set i (some x)) [i, j] = wipe σ [i, j])
    (hw2 : ∀ x y, wipe ((wipe ((wipe σ [i, j]).set i (some x)) [j]).set j (some y)) [j] = wipe ((wipe σ [i, j]).set i (some x)) [j])
    (q : ∀ H' D (kvs : List (List Key × V)) (us : List Pt), Same H H' → H D = none → H' D = some (.dT kvs) → kvs.map (·.1) = us.map ptKey → us.Nodup → (∀ p, p ∈ us ↔ p ∈ es.flatMap fun e => [e.1, e.2]) → us.length ≤ 2 * es.length → Q (.ref D) H') :
    tDc2 (iList K tl) (gName i) tYes (iTup K tp) (gName j) tYes tk tv [i, j] [j] σ H Q := by
  refine hl _ fun G L s hL => ?_
  have z : tDc2 (iList K (fun σ H Q => Q (.ref L) H)) (gName i) tYes (iTup K tp) (gName j) tYes tk tv [i, j] [j] σ G Q :=
    dc2_pts hL hlen few (fun Q' q' => q') (fun n x e G1 Q' h1 h2 s1 q' => hp n x e G1 Q' h1 h2 (s.trans s1) q') hk hv hw hw2 fun H' D kvs us s' n h => q H' D kvs us (s.trans s') (s.free n) h
  exact z
end Ah

namespace k07
open PySem PySem.Spec PyProof.Rows L2 He Ah
local macro_rules | `(tactic| walk_at "st") => `(tactic| repeat (first | refine ⟨_, rfl, ?_⟩ | refine ⟨_, _, rfl, rfl, ?_⟩))
local macro_rules | `(tactic| walk_at "lk") => `(tactic| repeat (first | exact look0 | rw [lookS (by decide +kernel)]))
local macro_rules | `(tactic| walk_at "pf") => `(tactic| repeat (first | rw [putF0] | rw [putF_hit] | rw [putFS (by decide +kernel)]))
local macro_rules | `(tactic| walk_at "nm") => `(tactic| simp only [tRet, tRetN, tSeq, tNext, tAsg, gName, tDrop, tIfS, tTest, tB, tNot, tAnd, tOr, tAndV, tOrV, tNotV, tIf, tC, tCons, tNil, tCB, tCall, tOp, tUn, tChain, rI0, rI, tVar, tSl, tPart, tNoPart, tLst, tTup, gSub, tPar, cxOf, L2.Cx.nox, L2.Cx.wish, L2.start, List.map_cons, List.map_nil, List.length_cons, List.length_nil, List.nil_append, List.cons_append, List.append_nil, Nat.zero_add, Nat.reduceAdd, Nat.reduceSub, Nat.sub_self, Nat.sub_zero, List.replicate_succ, List.replicate_zero, List.getElem?_cons_zero, List.getElem?_cons_succ, List.set_cons_zero, List.set_cons_succ, Option.some.injEq, exists_eq_left, exists_eq_left', exists_eq_right, exists_and_left, decide_eq_true_eq, decide_eq_false_iff_not, Bool.not_eq_true', V.int.injEq, V.bl.injEq, V.str.injEq, V.ref.injEq, List.cons.injEq, and_true, true_and, if_true, if_false, Bool.false_eq_true, Bool.not_true, Bool.not_false, ite_true, ite_false])
def top (i : Nat) : Stmt := PySem.Challenge.pw_arccursors_k07_whole_arcs_divide_the_lin.main.body.getD i (.Pass ⟨0, 0, 0, 0⟩)
abbrev s_is_integer : Stmt := top 9
def g_is_integer : DefG := { ad := glA "is_integer", name := "is_integer", qual := "is_integer", params := defArgs s_is_integer, body := defBody s_is_integer, scope := defScope s_is_integer }
abbrev s_in_range : Stmt := top 10
def g_in_range : DefG := { ad := glA "in_range", name := "in_range", qual := "in_range", params := defArgs s_in_range, body := defBody s_in_range, scope := defScope s_in_range }
abbrev s_is_key : Stmt := top 11
def g_is_key : DefG := { ad := glA "is_key", name := "is_key", qual := "is_key", params := defArgs s_is_key, body := defBody s_is_key, scope := defScope s_is_key }
abbrev s_is_point : Stmt := top 12
def g_is_point : DefG := { ad := glA "is_point", name := "is_point", qual := "is_point", params := defArgs s_is_point, body := defBody s_is_point, scope := defScope s_is_point }
abbrev s_check_point : Stmt := top 13
def g_check_point : DefG := { ad := glA "check_point", name := "check_point", qual := "check_point", params := defArgs s_check_point, body := defBody s_check_point, scope := defScope s_check_point }
abbrev s_split_at : Stmt := top 15
def g_split_at : DefG := { ad := glA "split_at", name := "split_at", qual := "split_at", params := defArgs s_split_at, body := defBody s_split_at, scope := defScope s_split_at }
abbrev s_check_arc : Stmt := top 16
def g_check_arc : DefG := { ad := glA "check_arc", name := "check_arc", qual := "check_arc", params := defArgs s_check_arc, body := defBody s_check_arc, scope := defScope s_check_arc }
abbrev s_check_arcs : Stmt := top 17
def g_check_arcs : DefG := { ad := glA "check_arcs", name := "check_arcs", qual := "check_arcs", params := defArgs s_check_arcs, body := defBody s_check_arcs, scope := defScope s_check_arcs }
abbrev s_tiling_fault : Stmt := top 18
def g_tiling_fault : DefG := { ad := glA "tiling_fault", name := "tiling_fault", qual := "tiling_fault", params := defArgs s_tiling_fault, body := defBody s_tiling_fault, scope := defScope s_tiling_fault }
abbrev s__law_hand : Stmt := top 20
def g__law_hand : DefG := { ad := glA "_law_hand", name := "_law_hand", qual := "_law_hand", params := defArgs s__law_hand, body := defBody s__law_hand, scope := defScope s__law_hand }
abbrev s__law_draw : Stmt := top 21
def g__law_draw : DefG := { ad := glA "_law_draw", name := "_law_draw", qual := "_law_draw", params := defArgs s__law_draw, body := defBody s__law_draw, scope := defScope s__law_draw }
abbrev s__law_points : Stmt := top 22
def g__law_points : DefG := { ad := glA "_law_points", name := "_law_points", qual := "_law_points", params := defArgs s__law_points, body := defBody s__law_points, scope := defScope s__law_points }
abbrev s__law_fault : Stmt := top 23
def g__law_fault : DefG := { ad := glA "_law_fault", name := "_law_fault", qual := "_law_fault", params := defArgs s__law_fault, body := defBody s__law_fault, scope := defScope s__law_fault }
abbrev s__law_bent : Stmt := top 24
def g__law_bent : DefG := { ad := glA "_law_bent", name := "_law_bent", qual := "_law_bent", params := defArgs s__law_bent, body := defBody s__law_bent, scope := defScope s__law_bent }
abbrev s_law : Stmt := top 25
def g_law : DefG := { ad := glA "law", name := "law", qual := "law", params := defArgs s_law, body := defBody s_law, scope := defScope s_law }
abbrev s_InvalidPoint_init : Stmt := inClass (top 1) 0
def g_InvalidPoint_init : DefG := { ad := mtA "InvalidPoint" "__init__", name := "__init__", qual := "InvalidPoint.__init__", params := defArgs s_InvalidPoint_init, body := defBody s_InvalidPoint_init, scope := defScope s_InvalidPoint_init }
abbrev s_InvalidArc_init : Stmt := inClass (top 2) 0
def g_InvalidArc_init : DefG := { ad := mtA "InvalidArc" "__init__", name := "__init__", qual := "InvalidArc.__init__", params := defArgs s_InvalidArc_init, body := defBody s_InvalidArc_init, scope := defScope s_InvalidArc_init }
abbrev s_InvalidArcs_init : Stmt := inClass (top 3) 0
def g_InvalidArcs_init : DefG := { ad := mtA "InvalidArcs" "__init__", name := "__init__", qual := "InvalidArcs.__init__", params := defArgs s_InvalidArcs_init, body := defBody s_InvalidArcs_init, scope := defScope s_InvalidArcs_init }
abbrev s_Arc_init : Stmt := inClass (top 14) 0
def g_Arc_init : DefG := { ad := mtA "Arc" "__init__", name := "__init__", qual := "Arc.__init__", params := defArgs s_Arc_init, body := defBody s_Arc_init, scope := defScope s_Arc_init }
abbrev s_Arc_start : Stmt := inClass (top 14) 1
def g_Arc_start : DefG := { ad := gtA "Arc" "start", name := "start", qual := "Arc.start", params := defArgs s_Arc_start, body := defBody s_Arc_start, scope := defScope s_Arc_start }
abbrev s_Arc_end : Stmt := inClass (top 14) 2
def g_Arc_end : DefG := { ad := gtA "Arc" "end", name := "end", qual := "Arc.end", params := defArgs s_Arc_end, body := defBody s_Arc_end, scope := defScope s_Arc_end }
abbrev s_Arc_contains : Stmt := inClass (top 14) 3
def g_Arc_contains : DefG := { ad := mtA "Arc" "__contains__", name := "__contains__", qual := "Arc.__contains__", params := defArgs s_Arc_contains, body := defBody s_Arc_contains, scope := defScope s_Arc_contains }
abbrev s_Arc_and : Stmt := inClass (top 14) 4
def g_Arc_and : DefG := { ad := mtA "Arc" "__and__", name := "__and__", qual := "Arc.__and__", params := defArgs s_Arc_and, body := defBody s_Arc_and, scope := defScope s_Arc_and }
abbrev s_Arc_split : Stmt := inClass (top 14) 5
def g_Arc_split : DefG := { ad := mtA "Arc" "split", name := "split", qual := "Arc.split", params := defArgs s_Arc_split, body := defBody s_Arc_split, scope := defScope s_Arc_split }
abbrev s_Arc_eq : Stmt := inClass (top 14) 6
def g_Arc_eq : DefG := { ad := mtA "Arc" "__eq__", name := "__eq__", qual := "Arc.__eq__", params := defArgs s_Arc_eq, body := defBody s_Arc_eq, scope := defScope s_Arc_eq }
abbrev s_Arc_repr : Stmt := inClass (top 14) 7
def g_Arc_repr : DefG := { ad := mtA "Arc" "__repr__", name := "__repr__", qual := "Arc.__repr__", params := defArgs s_Arc_repr, body := defBody s_Arc_repr, scope := defScope s_Arc_repr }
/-- what the top has written -/
structure Txt (K : Frag) (mg : Str → Option Value) : Prop where
  d_is_integer : Stands K g_is_integer
  d_in_range : Stands K g_in_range
  d_is_key : Stands K g_is_key
  d_is_point : Stands K g_is_point
  d_check_point : Stands K g_check_point
  d_split_at : Stands K g_split_at
  d_check_arc : Stands K g_check_arc
  d_check_arcs : Stands K g_check_arcs
  d_tiling_fault : Stands K g_tiling_fault
  d__law_hand : Stands K g__law_hand
  d__law_draw : Stands K g__law_draw
  d__law_points : Stands K g__law_points
  d__law_fault : Stands K g__law_fault
  d__law_bent : Stands K g__law_bent
  d_law : Stands K g_law
  d_InvalidPoint_init : Stands K g_InvalidPoint_init
  d_InvalidArc_init : Stands K g_InvalidArc_init
  d_InvalidArcs_init : Stands K g_InvalidArcs_init
  d_Arc_init : Stands K g_Arc_init
  d_Arc_start : Stands K g_Arc_start
  d_Arc_end : Stands K g_Arc_end
  d_Arc_contains : Stands K g_Arc_contains
  d_Arc_and : Stands K g_Arc_and
  d_Arc_split : Stands K g_Arc_split
  d_Arc_eq : Stands K g_Arc_eq
  d_Arc_repr : Stands K g_Arc_repr
  m_is_integer : mg "is_integer" = some (.ref (ga K "is_integer"))
  m_in_range : mg "in_range" = some (.ref (ga K "in_range"))
  m_is_key : mg "is_key" = some (.ref (ga K "is_key"))
  m_is_point : mg "is_point" = some (.ref (ga K "is_point"))
  m_check_point : mg "check_point" = some (.ref (ga K "check_point"))
  m_split_at : mg "split_at" = some (.ref (ga K "split_at"))
  m_check_arc : mg "check_arc" = some (.ref (ga K "check_arc"))
  m_check_arcs : mg "check_arcs" = some (.ref (ga K "check_arcs"))
  m_tiling_fault : mg "tiling_fault" = some (.ref (ga K "tiling_fault"))
  m__law_hand : mg "_law_hand" = some (.ref (ga K "_law_hand"))
  m__law_draw : mg "_law_draw" = some (.ref (ga K "_law_draw"))
  m__law_points : mg "_law_points" = some (.ref (ga K "_law_points"))
  m__law_fault : mg "_law_fault" = some (.ref (ga K "_law_fault"))
  m__law_bent : mg "_law_bent" = some (.ref (ga K "_law_bent"))
  m_law : mg "law" = some (.ref (ga K "law"))
  m_InvalidPoint : mg "InvalidPoint" = some (.ref (ga K "InvalidPoint"))
  m_InvalidArc : mg "InvalidArc" = some (.ref (ga K "InvalidArc"))
  m_InvalidArcs : mg "InvalidArcs" = some (.ref (ga K "InvalidArcs"))
  m_Arc : mg "Arc" = some (.ref (ga K "Arc"))
  c_Arc : Cls K (ga K "Arc")
  k_Arc : Mk K (ga K "Arc") (ma K (ga K "Arc") "__init__")
  n_Arc_own_start : NoAttr K (ga K "Arc") "own_start"
  n_Arc_own_end : NoAttr K (ga K "Arc") "own_end"
  e_Arc_contains : Meth K (ga K "Arc") "__contains__" (ma K (ga K "Arc") "__contains__")
  e_Arc_and : Meth K (ga K "Arc") "__and__" (ma K (ga K "Arc") "__and__")
  e_Arc_split : Meth K (ga K "Arc") "split" (ma K (ga K "Arc") "split")
  e_Arc_eq : Meth K (ga K "Arc") "__eq__" (ma K (ga K "Arc") "__eq__")
  e_Arc_repr : Meth K (ga K "Arc") "__repr__" (ma K (ga K "Arc") "__repr__")
  v_MAX_NUMBER : ∃ t, mg "MAX_NUMBER" = some (.int 4294967296 t)
  v_MAX_LENGTH : ∃ t, mg "MAX_LENGTH" = some (.int 20 t)
  v_BEHIND : ∃ t, mg "BEHIND" = some (.str "!" t)
  v_CHARACTERS : ∃ t, mg "CHARACTERS" = some (.str "abcdefghijklmnopqrstuvwxyz0123456789" t)
  b_NotImplemented : mg "NotImplemented" = none
  b_ValueError : mg "ValueError" = none
  b_all : mg "all" = none
  b_bool : mg "bool" = none
  b_enumerate : mg "enumerate" = none
  b_int : mg "int" = none
  b_isinstance : mg "isinstance" = none
  b_len : mg "len" = none
  b_list : mg "list" = none
  b_max : mg "max" = none
  b_min : mg "min" = none
  b_property : mg "property" = none
  b_range : mg "range" = none
  b_sorted : mg "sorted" = none
  b_str : mg "str" = none
  b_tuple : mg "tuple" = none
  r_InvalidPoint : ExcT K mg "InvalidPoint"
  xc_InvalidPoint : ExcC K (ga K "InvalidPoint")
  xf_InvalidPoint : XfC K (ga K "InvalidPoint")
  xn_InvalidPoint_value : PySem.W.findIn K (.ref (ga K "InvalidPoint")) "value" = some none
  xk_InvalidPoint : PySem.W.kitOne K (.ref (ga K "InvalidPoint")) (.type "ValueError") = some true
  r_InvalidArc : ExcT K mg "InvalidArc"
  xc_InvalidArc : ExcC K (ga K "InvalidArc")
  xf_InvalidArc : XfC K (ga K "InvalidArc")
  xn_InvalidArc_first : PySem.W.findIn K (.ref (ga K "InvalidArc")) "first" = some none
  xn_InvalidArc_second : PySem.W.findIn K (.ref (ga K "InvalidArc")) "second" = some none
  xk_InvalidArc : PySem.W.kitOne K (.ref (ga K "InvalidArc")) (.type "ValueError") = some true
  r_InvalidArcs : ExcT K mg "InvalidArcs"
  xc_InvalidArcs : ExcC K (ga K "InvalidArcs")
  xf_InvalidArcs : XfC K (ga K "InvalidArcs")
  xn_InvalidArcs_position : PySem.W.findIn K (.ref (ga K "InvalidArcs")) "position" = some none
  xk_InvalidArcs : PySem.W.kitOne K (.ref (ga K "InvalidArcs")) (.type "ValueError") = some true
  p_Arc_start : PropOf K (ga K "Arc") "start" (ma K (ga K "Arc") "start") (gtA "Arc" "start" K)
  p_Arc_end : PropOf K (ga K "Arc") "end" (ma K (ga K "Arc") "end") (gtA "Arc" "end" K)
  o_Arc : OwnC K (ga K "Arc")
  q_Arc : OwnK K (ga K "Arc")
  f_Arc : ∀ T ∈ all7, PySem.W.notFirst K (ga K "Arc") (.type T) = true
  x_Arc_ne : NoNe K (ga K "Arc")
  a_Arc : PySem.W.selfFirst K (ga K "Arc") = true
def tf : List (Frag → Addr) := []
/-- the tables and the names of their lambdas -/
def TL (K : Frag) : List (Addr × Str) := []
theorem tabs0 {K : Frag} {H : Hp} (h : ∀ p ∈ tf.map (cTA K), H p.2 = some (.tbl #[])) : LamX.Tabs (TL K) H := by
  intro p hp
  simp only [TL, List.mem_cons, List.not_mem_nil, or_false] at hp
/-- the tables -/
abbrev Tb (K : Frag) (mg : Str → Option Value) (base : Heap) : Prop := Tbs base mg (tf.map (cTA K))

def sp_is_integer (K : Frag) : Sp := fun vs H Q _ => ∃ x k, vs = [x] ∧ Is K H x k ∧ Q (.bl (k.isT "int" && !k.isT "bool")) H
theorem sc_is_integer : FnScope ["value"] ["value"] (defScope s_is_integer) := ⟨rfl, rfl, rfl, by decide +kernel, rfl, by decide +kernel, by decide +kernel⟩
theorem ok_is_integer {P : Program} {w : World} {K : Frag} {mg : Str → Option Value} {base : Heap} (T : Txt K mg) : FnB P w K mg base 1 (glA "is_integer" K) (sp_is_integer K) := by
  refine okD (N := ["value"]) (ps := ["value"]) (k := 0) (d := g_is_integer) T.d_is_integer rfl sc_is_integer (fun vs H Q E h => ?_) (fun _ _ _ _ _ _ us hl => match us, hl with | [_], _ => rfl) (fun A outer s H vs Q E hr h => ?_)
  · obtain ⟨x, k, rfl, hx, q⟩ := h
    rfl
  · have hu := hr.hu
    obtain ⟨x, k, rfl, hx, q⟩ := h
    refine ⟨_, PSs.nox ((pss_one (ps_ret (pe_and (pe_callB call_isi (by rfl) T.b_isinstance (by decide +kernel) (pa_cons (pv 0) (pa_cons (pe_bltn (v := .ty "int") (u := .type "int") (by rfl) T.b_int (by decide +kernel) rfl) pa_nil))) (pe_one (pe_not (pe_callB call_isi (by rfl) T.b_isinstance (by decide +kernel) (pa_cons (pv 0) (pa_cons (pe_bltn (v := .ty "bool") (u := .type "bool") (by rfl) T.b_bool (by decide +kernel) rfl) pa_nil))))))))), ?_⟩
    walk_at "nm"
    refine isi "int" hx ?_
    walk_at "nm"
    cases e : k.isT "int" with
    | false =>
      rw [e] at q
      exact iteF q
    | true =>
      rw [e] at q
      refine iteT ?_
      exact isi "bool" hx ⟨_, rfl, q⟩

def sp_in_range (K : Frag) : Sp := fun vs H Q _ => ∃ x k a b, vs = [x, .int a, .int b] ∧ Is K H x k ∧ Q (.bl (k.within a b)) H
theorem sc_in_range : FnScope ["value", "least", "most"] ["value", "least", "most"] (defScope s_in_range) := ⟨rfl, rfl, rfl, by decide +kernel, rfl, by decide +kernel, by decide +kernel⟩
theorem ok_in_range {P : Program} {w : World} {K : Frag} {mg : Str → Option Value} {base : Heap} (T : Txt K mg) : FnB P w K mg base 2 (glA "in_range" K) (sp_in_range K) := by
  refine okD (N := ["value", "least", "most"]) (ps := ["value", "least", "most"]) (k := 1) (d := g_in_range) T.d_in_range rfl sc_in_range (fun vs H Q E h => ?_) (fun _ _ _ _ _ _ us hl => match us, hl with | [_, _, _], _ => rfl) (fun A outer s H vs Q E hr h => ?_)
  · obtain ⟨x, k, a, b, rfl, hx, q⟩ := h
    rfl
  · have hu := hr.hu
    obtain ⟨x, k, a, b, rfl, hx, q⟩ := h
    refine ⟨_, PSs.nox ((pss_one (ps_ret (pe_and (pe_cF (ok_is_integer (K := K) T) hr T.m_is_integer passL (pa_cons (pv 0) pa_nil)) (pe_one (pe_chain op_le op_le (pv 1) (pv 0) (pv 2))))))), ?_⟩
    walk_at "st"
    refine ⟨x, k, rfl, hx, ?_⟩
    walk_at "st"
    cases hx with
    | int i =>
      refine iteT ?_
      walk_at "st"
      by_cases h : a ≤ i
      · rw [decide_eq_true h]
        refine iteT ?_
        walk_at "st"
        have e : (Kn.int i).within a b = decide (i ≤ b) := by simp [Kn.within, h]
        rw [e] at q
        exact q
      · rw [decide_eq_false h]
        have e : (Kn.int i).within a b = false := by simp [Kn.within, h]
        rw [e] at q
        exact iteF q
    | _ => exact iteF q

def sp_is_key (K : Frag) : Sp := fun vs H Q _ => ∃ x k, vs = [x] ∧ Is K H x k ∧ k.small ∧ ∀ H', Same H H' → Q (.bl k.isKey) H'
theorem sc_is_key : FnScope ["value", "sign"] ["value"] (defScope s_is_key) := ⟨rfl, rfl, rfl, by decide +kernel, rfl, by decide +kernel, by decide +kernel⟩
theorem ok_is_key {P : Program} {w : World} {K : Frag} {mg : Str → Option Value} {base : Heap} (T : Txt K mg) : FnB P w K mg base 1 (glA "is_key" K) (sp_is_key K) := by
  refine okD (N := ["value", "sign"]) (ps := ["value"]) (k := 0) (d := g_is_key) T.d_is_key rfl sc_is_key (fun vs H Q E h => ?_) (fun _ _ _ _ _ _ us hl => match us, hl with | [_], _ => rfl) (fun A outer s H vs Q E hr h => ?_)
  · obtain ⟨x, k, rfl, hx, hs, q⟩ := h
    rfl
  · have hu := hr.hu
    obtain ⟨x, k, rfl, hx, hs, q⟩ := h
    refine ⟨_, PSs.nox ((pss_cons (ps_if (PW.pt (pw_or (pt_not (pt_val (pe_callB call_isi (by rfl) T.b_isinstance (by decide +kernel) (pa_cons (pv 0) (pa_cons (pe_bltn (v := .ty "str") (u := .type "str") (by rfl) T.b_str (by decide +kernel) rfl) pa_nil))))) (pw_or1 (pt_not (pt_chain op_le op_le pe_int (pe_callB call_len_str (by rfl) T.b_len (by decide +kernel) (pa_cons (pv 0) pa_nil)) (pe_gc (by rfl) (gint T.v_MAX_LENGTH)))))))
        (pss_one (ps_ret pe_bl))
        pss_nil)
      (pss_one (ps_ret (pe_callB (cr_all rfl) (by rfl) T.b_all (by decide +kernel) (pa_cons (pe_lc (own := [("sign", 1)]) (g := gName 1) rfl sc_is_key.nd (pi_str (pv 0)) (blkOk_by (N := ["value", "sign"]) (sc := defScope s_is_key) (by decide +kernel)) (fun _ _ _ _ _ => pg_name (i := 1) sc_is_key.nd rfl (Or.inl rfl)) (fun _ _ _ _ _ => pts_nil) (fun _ _ _ _ _ => (pe_cmpR op_in_sign (pv 1) (pe_gc (by rfl) (gstr T.v_CHARACTERS)) (by rfl)))) pa_nil)))))), ?_⟩
    walk_at "nm"
    refine isi "str" hx ?_
    walk_at "nm"
    cases hx with
    | str z =>
      rw [if_neg (by simp [Kn.isT])]
      have hz : z.length ≤ 1000000 := hs
      refine ⟨z, rfl, (by rw [sizeLine_eq]; omega), ?_⟩
      have q' : ∀ b, b = isKeyL z.cps.toList → ∀ H', Same H H' → Q (.bl b) H' := fun b e H' s => by rw [e]; exact q H' s
      have hl := str_len z
      by_cases h1 : (1 : Int) ≤ (z.length : Int)
      · rw [if_pos h1]
        by_cases h2 : (z.length : Int) ≤ 20
        · rw [if_neg (by omega)]
          refine ⟨_, rfl, _, rfl, fun D hD => ?_⟩
          refine lc_pure walk_str (f := fun i => .bl (keySign (z.cps.toList.getD i 0))) (it := fun i => .str ⟨#[z.cps.toList.getD i 0]⟩) (by rw [cps_len]; omega) hD (fun _ _ => trivial) (fun i H x H' _ y => yStr i H x H' y) (by intro i; rfl) ?_ ?_
          · intro i hi H' Q' s k
            refine ⟨_, rfl, _, rfl, _, rfl, ?_⟩
            have e := chars_mem (z.cps.toList.getD i 0)
            unfold chars at e
            rw [e]
            exact k H' (Same.refl _)
          · intro H' s hl'
            rw [cps_len, map_getD_range z.cps.toList 0 (fun c => V.bl (keySign c))] at hl'
            refine ⟨D, z.cps.toList.map keySign, rfl, SqL.of (by rw [hl', List.map_map]; rfl), ?_⟩
            refine q' _ ?_ H' s
            unfold isKeyL
            rw [decide_eq_true (by omega), decide_eq_true (by omega), List.all_map]
            rfl
        · rw [if_pos (by omega)]
          refine q' _ ?_ H (Same.refl _)
          unfold isKeyL
          rw [decide_eq_false (p := z.cps.toList.length ≤ 20) (by omega)]
          simp
      · rw [if_neg h1]
        refine q' _ ?_ H (Same.refl _)
        unfold isKeyL
        rw [decide_eq_false (p := 1 ≤ z.cps.toList.length) (by omega)]
        simp
    | _ =>
      rw [if_pos (by simp [Kn.isT])]
      exact q H (Same.refl _)

def sp__law_hand (K : Frag) : Sp := fun vs H Q _ => ∃ (c : Addr) (ns : List Int) (k : Int), vs = [.ref c, .int k] ∧ SqL K H c (ns.map V.int) ∧ ns.length ≤ 1000 ∧ (0 ≤ k ∧ k ≤ 1000) ∧
  ∀ H' p, Same H H' → H p = none → PoolAt H' p → Q (.ref p) H'
theorem sc__law_hand : FnScope ["_law_script", "_law_k", "_law_cell", "_law_seed"] ["_law_script", "_law_k"] (defScope s__law_hand) := ⟨rfl, rfl, rfl, by decide +kernel, rfl, by decide +kernel, by decide +kernel⟩
theorem ok__law_hand {P : Program} {w : World} {K : Frag} {mg : Str → Option Value} {base : Heap} (T : Txt K mg) : FnB P w K mg base 1 (glA "_law_hand" K) (sp__law_hand K) := by
  refine okD (N := ["_law_script", "_law_k", "_law_cell", "_law_seed"]) (ps := ["_law_script", "_law_k"]) (k := 0) (d := g__law_hand) T.d__law_hand rfl sc__law_hand (fun vs H Q E h => ?_) (fun _ _ _ _ _ _ us hl => match us, hl with | [_, _], _ => rfl) (fun A outer s H vs Q E hr h => ?_)
  · obtain ⟨c, ns, k, rfl, hc, hl, hk, q⟩ := h
    rfl
  · have hu := hr.hu
    obtain ⟨c, ns, k, rfl, hc, hl, hk, q⟩ := h
    refine ⟨_, PSs.nox ((pss_cons (ps_set (i := 2) sc__law_hand.nd rfl (Or.inl rfl) (pe_ix ix_list (pe_op op_cat (pe_slice sl_list (pv 0) (po_some (pv 1)) (po_some (pe_op op_add (pv 1) pe_int))) (pe_lst (pa_cons pe_int pa_nil))) pe_int (fun _ _ => rfl)))
      (pss_cons (ps_set (i := 3) sc__law_hand.nd rfl (Or.inl rfl) (pe_op op_mod (pe_op op_mul (pe_op op_add (pe_op op_add (pe_op op_mod (pv 2) pe_int) (pe_op op_mul pe_int (pv 1))) pe_int) pe_int) pe_int))
      (pss_one (ps_ret (pe_lst (pa_cons (pe_op op_mul (pe_callTy call_int1 (by rfl) T.b_int (by decide +kernel) (pa_cons (pe_cmpR op_ge (pv 2) (pe_op op_pow pe_int pe_int) (nomark _)) pa_nil)) (pv 2)) (pa_cons (pv 3) pa_nil)))))))), ?_⟩
    walk_at "nm"
    refine ⟨c, _, rfl, hc, fun p1 hp1 => ?_⟩
    obtain ⟨l', el, hl'⟩ := cutV_int ns (some k) (some (k + 1))
    rw [el]
    refine ⟨(by rw [sizeLine_eq]; decide), fun p2 hp2 => ?_⟩
    refine ⟨p1, p2, _, _, rfl, rfl, upd_keep upd_same hp2, upd_same, (by rw [List.length_map, sizeLine_eq]; simp; omega), fun p3 hp3 => ?_⟩
    obtain ⟨v, ev⟩ := head_int l'
    refine ixL (SqL.of upd_same) ev ?_
    refine ⟨v, rfl, by decide, .inl ⟨by decide, by decide⟩, .inr ⟨by decide, by decide⟩, by decide, ⟨by decide, by decide, by decide⟩, v, rfl, .inr ⟨v, rfl, .inl ⟨?_, ?_⟩, ?_⟩⟩
    · split <;> decide
    · split <;> decide
    · refine ⟨(by rw [sizeLine_eq]; decide), fun p hp => ?_⟩
      have s1 : Same H (upd H p1 (.lst (l'.map V.int))) := Same.upd (Same.refl _) hp1
      have s2 := Same.upd (o := .lst [V.int 0]) s1 hp2
      have s3 := Same.upd (o := .lst (l'.map V.int ++ [V.int 0])) s2 hp3
      exact q _ p (Same.upd s3 hp) (s3.free hp) ⟨_, _, upd_same⟩

def sp__law_draw (K : Frag) : Sp := fun vs H Q _ => ∃ (a : Addr) (m : Int), vs = [.ref a, .int m] ∧ PoolAt H a ∧ 0 < m ∧ m < 1073741824 ∧
  ∀ v H', 0 ≤ v → v < m → PoolAt H' a → Ex a H H' → Q (.int v) H'
theorem sc__law_draw : FnScope ["_law_pool", "_law_size", "_law_found"] ["_law_pool", "_law_size"] (defScope s__law_draw) := ⟨rfl, rfl, rfl, by decide +kernel, rfl, by decide +kernel, by decide +kernel⟩
theorem ok__law_draw {P : Program} {w : World} {K : Frag} {mg : Str → Option Value} {base : Heap} (T : Txt K mg) : FnB P w K mg base 1 (glA "_law_draw" K) (sp__law_draw K) := by
  refine okD (N := ["_law_pool", "_law_size", "_law_found"]) (ps := ["_law_pool", "_law_size"]) (k := 0) (d := g__law_draw) T.d__law_draw rfl sc__law_draw (fun vs H Q E h => ?_) (fun _ _ _ _ _ _ us hl => match us, hl with | [_, _], _ => rfl) (fun A outer s H vs Q E hr h => ?_)
  · obtain ⟨a, m, rfl, ⟨p, r, ha⟩, m0, m1, q⟩ := h
    rfl
  · have hu := hr.hu
    obtain ⟨a, m, rfl, ⟨p, r, ha⟩, m0, m1, q⟩ := h
    refine ⟨_, PSs.nox ((pss_cons (ps_if (pt_cmpR op_gt (pe_ix ix_list (pv 0) pe_int (fun _ _ => rfl)) pe_int (nomark _))
        (pss_cons (ps_set (i := 2) sc__law_draw.nd rfl (Or.inl rfl) (pe_op op_mod (pe_ix ix_list (pv 0) pe_int (fun _ _ => rfl)) (pv 1)))
        (pss_cons (ps_asg (pe_op op_fdiv (pe_ix ix_list (pv 0) pe_int (fun _ _ => rfl)) (pv 1)) (pg_sub (pv 0) pe_int set_list))
        (pss_one (ps_ret (pv 2)))))
        pss_nil)
      (pss_cons (ps_asg (pe_op op_mod (pe_op op_add (pe_op op_mul (pe_ix ix_list (pv 0) pe_int (fun _ _ => rfl)) pe_int) pe_int) pe_int) (pg_sub (pv 0) pe_int set_list))
      (pss_one (ps_ret (pe_op op_mod (pe_op op_fdiv (pe_op op_mod (pe_op op_mul (pe_ix ix_list (pv 0) pe_int (fun _ _ => rfl)) (pe_ix ix_list (pv 0) pe_int (fun _ _ => rfl))) pe_int) pe_int) (pv 1))))))), ?_⟩
    walk_at "nm"
    refine ixL (SqL.of ha) rfl ⟨_, rfl, ?_⟩
    by_cases hp : 0 < p
    · rw [if_pos hp]
      refine ixL (SqL.of ha) rfl ⟨_, rfl, m0, ?_⟩
      refine ixL (SqL.of ha) rfl ⟨_, rfl, ⟨m0, m1⟩, ?_⟩
      refine setL ha rfl ?_
      exact q _ _ (Int.emod_nonneg _ (Int.ne_of_gt m0)) (Int.emod_lt_of_pos _ m0) ⟨_, _, upd_same⟩ Ex.refl.upd
    · rw [if_neg hp]
      refine ixL (SqL.of ha) rfl ⟨_, rfl, .inr ⟨by decide, by decide⟩, by decide, ?_⟩
      refine setL ha rfl ?_
      have e1 := Int.emod_nonneg (r * 48271 + 11) (show (2147483647 : Int) ≠ 0 by decide)
      have e2 := Int.emod_lt_of_pos (r * 48271 + 11) (show (0 : Int) < 2147483647 by decide)
      refine ixL (i := 1) (v := .int ((r * 48271 + 11) % 2147483647)) (SqL.of upd_same) rfl ?_
      refine ixL (i := 1) (v := .int ((r * 48271 + 11) % 2147483647)) (SqL.of upd_same) rfl ⟨_, rfl, _, rfl, .inl ⟨by omega, by omega⟩, by decide, ⟨by decide, by decide⟩, m0, ?_⟩
      exact q _ _ (Int.emod_nonneg _ (Int.ne_of_gt m0)) (Int.emod_lt_of_pos _ m0) ⟨_, _, upd_same⟩ Ex.refl.upd

theorem sc_InvalidPoint_init : FnScope ["self", "value"] ["self", "value"] (defScope s_InvalidPoint_init) := ⟨rfl, rfl, rfl, by decide +kernel, rfl, by decide +kernel, by decide +kernel⟩
theorem ok_InvalidPoint_init {P : Program} {w : World} {K : Frag} {mg : Str → Option Value} {base : Heap} (T : Txt K mg) : FnU P w K mg base 1 (mtA "InvalidPoint" "__init__" K) (spX1 (ga K "InvalidPoint") "value") := by
  refine okU (N := ["self", "value"]) (ps := ["self", "value"]) (k := 0) (d := g_InvalidPoint_init) T.d_InvalidPoint_init rfl sc_InvalidPoint_init (fun vs H Q E h => ?_) (fun _ _ _ _ _ _ us hl => match us, hl with | [_, _], _ => rfl) (fun cdv A outer s H vs Q E hr h => ?_)
  · obtain ⟨a, v0, rfl, hx, q⟩ := h
    rfl
  · obtain ⟨a, v0, rfl, hx, q⟩ := h
    refine ⟨_, PSs.nox (pss_one (ps_stG (pv 0) (pv 1))), ?_⟩
    refine ⟨_, rfl, _, rfl, a, _, rfl, T.r_InvalidPoint.o, T.xn_InvalidPoint_value, .inl ⟨hx, fun dx hd ne => ?_⟩⟩
    exact q dx hd ne

theorem sc_InvalidArc_init : FnScope ["self", "first", "second"] ["self", "first", "second"] (defScope s_InvalidArc_init) := ⟨rfl, rfl, rfl, by decide +kernel, rfl, by decide +kernel, by decide +kernel⟩
theorem ok_InvalidArc_init {P : Program} {w : World} {K : Frag} {mg : Str → Option Value} {base : Heap} (T : Txt K mg) : FnU P w K mg base 1 (mtA "InvalidArc" "__init__" K) (spX2 (ga K "InvalidArc") "first" "second") := by
  refine okU (N := ["self", "first", "second"]) (ps := ["self", "first", "second"]) (k := 0) (d := g_InvalidArc_init) T.d_InvalidArc_init rfl sc_InvalidArc_init (fun vs H Q E h => ?_) (fun _ _ _ _ _ _ us hl => match us, hl with | [_, _, _], _ => rfl) (fun cdv A outer s H vs Q E hr h => ?_)
  · obtain ⟨a, v0, v1, rfl, hx, q⟩ := h
    rfl
  · obtain ⟨a, v0, v1, rfl, hx, q⟩ := h
    refine ⟨_, PSs.nox (pss_cons (ps_stG (pv 0) (pv 1)) (pss_one (ps_stG (pv 0) (pv 2)))), ?_⟩
    refine ⟨_, rfl, _, rfl, a, _, rfl, T.r_InvalidArc.o, T.xn_InvalidArc_first, .inl ⟨hx, fun dx hd ne => ?_⟩⟩
    refine ⟨_, rfl, _, rfl, a, _, rfl, T.r_InvalidArc.o, T.xn_InvalidArc_second, .inr ⟨dx, _, upd_same, by rw [upd_ne ne, upd_same], by simp, ?_⟩⟩
    exact q dx hd ne

theorem sc_InvalidArcs_init : FnScope ["self", "position"] ["self", "position"] (defScope s_InvalidArcs_init) := ⟨rfl, rfl, rfl, by decide +kernel, rfl, by decide +kernel, by decide +kernel⟩
theorem ok_InvalidArcs_init {P : Program} {w : World} {K : Frag} {mg : Str → Option Value} {base : Heap} (T : Txt K mg) : FnU P w K mg base 1 (mtA "InvalidArcs" "__init__" K) (spX1 (ga K "InvalidArcs") "position") := by
  refine okU (N := ["self", "position"]) (ps := ["self", "position"]) (k := 0) (d := g_InvalidArcs_init) T.d_InvalidArcs_init rfl sc_InvalidArcs_init (fun vs H Q E h => ?_) (fun _ _ _ _ _ _ us hl => match us, hl with | [_, _], _ => rfl) (fun cdv A outer s H vs Q E hr h => ?_)
  · obtain ⟨a, v0, rfl, hx, q⟩ := h
    rfl
  · obtain ⟨a, v0, rfl, hx, q⟩ := h
    refine ⟨_, PSs.nox (pss_one (ps_stG (pv 0) (pv 1))), ?_⟩
    refine ⟨_, rfl, _, rfl, a, _, rfl, T.r_InvalidArcs.o, T.xn_InvalidArcs_position, .inl ⟨hx, fun dx hd ne => ?_⟩⟩
    exact q dx hd ne

def sp_is_point (K : Frag) : Sp := fun vs H Q _ => ∃ x b, vs = [x] ∧ PtV K H x b ∧ ∀ H', Same H H' → Q (.bl b) H'
theorem sc_is_point : FnScope ["value", "text"] ["value"] (defScope s_is_point) := ⟨rfl, rfl, rfl, by decide +kernel, rfl, by decide +kernel, by decide +kernel⟩
theorem ok_is_point {P : Program} {w : World} {K : Frag} {mg : Str → Option Value} {base : Heap} (T : Txt K mg) : FnB P w K mg base 3 (glA "is_point" K) (sp_is_point K) := by
  refine okD (N := ["value", "text"]) (ps := ["value"]) (k := 2) (d := g_is_point) T.d_is_point rfl sc_is_point (fun vs H Q E h => ?_) (fun _ _ _ _ _ _ us hl => match us, hl with | [_], _ => rfl) (fun A outer s H vs Q E hr h => ?_)
  · obtain ⟨x, b, rfl, hx, q⟩ := h
    rfl
  · have hu := hr.hu
    obtain ⟨x, b, rfl, hx, q⟩ := h
    refine ⟨_, PSs.nox ((pss_cons (ps_if (PW.pt (pw_or (pt_not (pt_val (pe_callB call_isi (by rfl) T.b_isinstance (by decide +kernel) (pa_cons (pv 0) (pa_cons (pe_bltn (v := .ty "tuple") (u := .type "tuple") (by rfl) T.b_tuple (by decide +kernel) rfl) pa_nil))))) (pw_or (pt_cmpR op_ne (pe_callB call_len_seq (by rfl) T.b_len (by decide +kernel) (pa_cons (pv 0) pa_nil)) pe_int (nomark _)) (pw_or1 (pt_not (pt_val (pe_cF (ok_in_range (K := K) T) hr T.m_in_range passL (pa_cons (pe_ix ix_tup (pv 0) pe_int (fun _ _ => rfl)) (pa_cons pe_int (pa_cons (pe_gc (by rfl) (gint T.v_MAX_NUMBER)) pa_nil))))))))))
        (pss_one (ps_ret pe_bl))
        pss_nil)
      (pss_cons (ps_set (i := 1) sc_is_point.nd rfl (Or.inl rfl) (pe_ix ix_tup (pv 0) pe_int (fun _ _ => rfl)))
      (pss_cons (ps_if (pt_not (pt_val (pe_callB call_isi (by rfl) T.b_isinstance (by decide +kernel) (pa_cons (pv 1) (pa_cons (pe_bltn (v := .ty "str") (u := .type "str") (by rfl) T.b_str (by decide +kernel) rfl) pa_nil)))))
        (pss_one (ps_ret pe_bl))
        pss_nil)
      (pss_cons (ps_if (pt_cmpR op_eq (pv 1) pe_str (nomark _))
        (pss_one (ps_ret pe_bl))
        pss_nil)
      (pss_cons (ps_if (pt_cmpR op_eq (pe_ix ix_tup (pv 0) pe_int (fun _ _ => rfl)) (pe_gc (by rfl) (gint T.v_MAX_NUMBER)) (nomark _))
        (pss_one (ps_ret pe_bl))
        pss_nil)
      (pss_one (ps_ret (pe_ifExp (pt_cmpR op_eq (pe_ix ix_str (pv 1) (pe_un un_neg pe_int) (fun _ _ => rfl)) (pe_gc (by rfl) (gstr T.v_BEHIND)) (nomark _)) (pe_cF (ok_is_key (K := K) T) hr T.m_is_key passL (pa_cons (pe_slice C8.sl_txt (pv 1) po_none (po_some (pe_un un_neg pe_int))) pa_nil)) (pe_cF (ok_is_key (K := K) T) hr T.m_is_key passL (pa_cons (pv 1) pa_nil))))))))))), ?_⟩
    walk_at "nm"
    cases hx with
    | no h hk =>
      refine isi "tuple" h ⟨_, rfl, ?_⟩
      rw [hk, if_pos rfl]
      exact q H (Same.refl _)
    | @len a l e hl hm =>
      refine isi "tuple" (.tup e) ⟨_, rfl, ?_⟩
      rw [if_neg (show ¬ (Kn.tup a l).isT "tuple" = false from fun z => by cases z)]
      refine ⟨_, rfl, _, .inr (SqT.of e), rfl, _, rfl, ?_⟩
      rw [if_pos (by simp; omega)]
      exact q H (Same.refl _)
    | @two a u t ku kt e hu' ht hs =>
      refine isi "tuple" (.tup e) ⟨_, rfl, ?_⟩
      rw [if_neg (show ¬ (Kn.tup a [u, t]).isT "tuple" = false from fun z => by cases z)]
      refine ⟨_, rfl, _, .inr (SqT.of e), rfl, _, rfl, ?_⟩
      rw [if_neg (by simp)]
      refine ixT (SqT.of e) rfl ⟨_, ku, _, _, rfl, hu', _, rfl, ?_⟩
      have q' : ∀ b, b = ptK ku kt → ∀ H', Same H H' → Q (.bl b) H' := fun b e H' s => by rw [e]; exact q H' s
      cases hw : ku.within 0 4294967296 with
      | false =>
        rw [if_pos rfl]
        refine q' _ ?_ H (Same.refl _)
        unfold ptK
        rw [hw]
        rfl
      | true =>
        rw [if_neg (by simp)]
        cases hu' with
        | int i =>
          refine ixT (SqT.of e) rfl ?_
          refine isi "str" ht ⟨_, rfl, ?_⟩
          cases ht with
          | str z =>
            rw [if_neg (show ¬ (Kn.str z).isT "str" = false from fun z => by cases z)]
            have hz : z.length ≤ 1000000 := hs
            have hzl := str_len z
            refine ⟨rfl, _, rfl, ?_⟩
            by_cases h0 : z = Str.ofString ""
            · rw [if_pos (by simp [h0])]
              refine q' _ ?_ H (Same.refl _)
              unfold ptK
              rw [hw, h0]
              rfl
            · rw [if_neg (by simpa using h0)]
              have hne : z.cps.toList ≠ [] := fun e => h0 (PySem.W.str_of_cps e)
              have he : z.cps.toList.isEmpty = false := by simpa using hne
              refine ixT (SqT.of e) rfl ⟨rfl, _, rfl, ?_⟩
              by_cases hi : i = 4294967296
              · rw [if_pos (by simp [hi])]
                refine q' _ ?_ H (Same.refl _)
                rw [ptK_is, hw, he, hi]
                rfl
              · rw [if_neg (by simpa using hi)]
                have hp : ptK (.int i) (.str z) = textOk z.cps.toList := by
                  rw [ptK_is, hw, he]
                  simp [hi]
                rw [hp] at q'
                obtain ⟨l, c, hlc⟩ : ∃ l c, z.cps.toList = l ++ [c] := ⟨_, _, (List.dropLast_concat_getLast hne).symm⟩
                have hS : z = SX.S (l ++ [c]) := by rw [← hlc, SX.S_tl]
                refine ⟨_, rfl, _, _, c, rfl, rfl, (by rw [sizeLine_eq]; omega), ?_, ?_⟩
                · rw [hlc]
                  exact atI_last l c
                · refine ⟨rfl, _, rfl, ?_⟩
                  by_cases hc : c = 33
                  · subst hc
                    rw [if_pos (by decide +kernel)]
                    refine ⟨_, rfl, _, rfl, z, rfl, (by rw [sizeLine_eq]; omega), ?_⟩
                    have hsl : Txt.slice z none (some (-1)) = SX.S l := by rw [hS]; exact SX.butlast_snoc l 33
                    have hll : z.cps.toList.length = l.length + 1 := by rw [hlc]; simp
                    rw [hsl]
                    refine ⟨_, .str _, rfl, .str _, ?_, fun H' s => q' _ ?_ H' s⟩
                    · show (SX.S l).length ≤ 1000000
                      rw [SX.S_len]
                      omega
                    · show isKeyL (SX.S l).cps.toList = _
                      rw [hlc, textOk_snoc, if_pos rfl, ]
                  · rw [if_neg (by rw [show Str.ofString "!" = ⟨#[33]⟩ by decide +kernel]; simpa using hc)]
                    refine ⟨_, .str z, rfl, .str z, hs, fun H' s => q' _ ?_ H' s⟩
                    show isKeyL z.cps.toList = _
                    rw [hlc, textOk_snoc, if_neg hc]
          | _ =>
            rw [if_pos (by rfl)]
            refine q' _ ?_ H (Same.refl _)
            unfold ptK
            rw [hw]
            rfl
        | _ => cases hw

def sp_check_point (K : Frag) : Sp := fun vs H Q E => ∃ x b, vs = [x] ∧ PtV K H x b ∧ (b = true → ∀ H', Same H H' → Q .non H') ∧ (b = false → Out1 K E H "InvalidPoint" "value" x)
theorem sc_check_point : FnScope ["value"] ["value"] (defScope s_check_point) := ⟨rfl, rfl, rfl, by decide +kernel, rfl, by decide +kernel, by decide +kernel⟩
theorem ok_check_point {P : Program} {w : World} {K : Frag} {mg : Str → Option Value} {base : Heap} (T : Txt K mg) : FnB P w K mg base 4 (glA "check_point" K) (sp_check_point K) := by
  refine okD (N := ["value"]) (ps := ["value"]) (k := 3) (d := g_check_point) T.d_check_point rfl sc_check_point (fun vs H Q E h => ?_) (fun _ _ _ _ _ _ us hl => match us, hl with | [_], _ => rfl) (fun A outer s H vs Q E hr h => ?_)
  · obtain ⟨x, b, rfl, hx, q, qe⟩ := h
    rfl
  · have hu := hr.hu
    obtain ⟨x, b, rfl, hx, q, qe⟩ := h
    refine ⟨_, (pss_one (ps_if (pt_not (pt_val (pe_cF (ok_is_point (K := K) T) hr T.m_is_point passL (pa_cons (pv 0) pa_nil))))
        (pss_one (ps_raiseC rfl (takes_of rfl rfl rfl rfl) T.r_InvalidPoint (ok_InvalidPoint_init (K := K) T) hr (pa_cons (pv 0) pa_nil)))
        pss_nil)), ?_⟩
    walk_at "nm"
    refine ⟨_, b, rfl, hx, fun H1 s1 => ?_⟩
    walk_at "nm"
    cases b with
    | true =>
      rw [if_neg (by decide)]
      exact q rfl H1 s1
    | false =>
      rw [if_pos rfl]
      exact ((qe rfl).same s1).mk fun Q' q' => ⟨_, rfl, q'⟩

/-- a point of a law: small -/
structure SmPt (p : Pt) (m : Int) : Prop where
  n0 : 0 ≤ p.1
  n1 : p.1 < m
  pt : isPt p = true
  sm : p.2.length ≤ 30
  ok : PyData.strOk p.2 = true

def sp_Arc_init (K : Frag) : Sp := fun vs H Q E => ∃ (x dx : Addr) (u v : V), vs = [.ref x, u, v] ∧ H x = some (.ins (ga K "Arc") dx []) ∧
  ((PtV K H u false ∧ Out1 K E H "InvalidPoint" "value" u) ∨ (PtV K H u true ∧ PtV K H v false ∧ Out1 K E H "InvalidPoint" "value" v) ∨
   (∃ (a b : Addr) (p q : Pt), u = .ref a ∧ v = .ref b ∧ PtV K H u true ∧ PtV K H v true ∧ PtAt H a p ∧ PtAt H b q ∧
     ((ptLt p q = false ∧ Out2 K E H "InvalidArc" "first" "second" u v) ∨ (ptLt p q = true ∧ ∀ H', (∃ dx, H' x = some (.ins (ga K "Arc") dx [("own_start", u), ("own_end", v)])) → Ex x H H' → Q .non H'))))
theorem sc_Arc_init : FnScope ["self", "start", "end"] ["self", "start", "end"] (defScope s_Arc_init) := ⟨rfl, rfl, rfl, by decide +kernel, rfl, by decide +kernel, by decide +kernel⟩
theorem ok_Arc_init {P : Program} {w : World} {K : Frag} {mg : Str → Option Value} {base : Heap} (T : Txt K mg) : FnB P w K mg base 5 (mtA "Arc" "__init__" K) (sp_Arc_init K) := by
  refine okD (N := ["self", "start", "end"]) (ps := ["self", "start", "end"]) (k := 4) (d := g_Arc_init) T.d_Arc_init rfl sc_Arc_init (fun vs H Q E h => ?_) (fun _ _ _ _ _ _ us hl => match us, hl with | [_, _, _], _ => rfl) (fun A outer s H vs Q E hr h => ?_)
  · obtain ⟨x, dx, u, v, rfl, hx, q⟩ := h
    rfl
  · have hu := hr.hu
    obtain ⟨x, dx, u, v, rfl, hx, q⟩ := h
    refine ⟨_, (pss_cons (ps_expr (pe_cF (ok_check_point (K := K) T) hr T.m_check_point (passes_call (takes_of rfl rfl rfl rfl) (fun _ _ _ _ h => h)) (pa_cons (pv 1) pa_nil)))
      (pss_cons (ps_expr (pe_cF (ok_check_point (K := K) T) hr T.m_check_point (passes_call (takes_of rfl rfl rfl rfl) (fun _ _ _ _ h => h)) (pa_cons (pv 2) pa_nil)))
      (pss_cons (ps_if (pt_not (pt_cmpR (op_ltP (hu64 hr)) (pv 1) (pv 2) (nomark _)))
        (pss_one (ps_raiseC rfl (takes_of rfl rfl rfl rfl) T.r_InvalidArc (ok_InvalidArc_init (K := K) T) hr (pa_cons (pv 1) (pa_cons (pv 2) pa_nil))))
        pss_nil)
      (pss_cons (ps_fld (pv 0) (pv 1) rfl)
      (pss_one (ps_fld (pv 0) (pv 2) rfl)))))), ?_⟩
    walk_at "nm"
    rcases q with ⟨h1, o⟩ | ⟨h1, h2, o⟩ | ⟨a, b, p, r, rfl, rfl, h1, h2, hp, hr', q⟩
    · exact ⟨_, _, rfl, h1, (fun z => by cases z), fun _ => o⟩
    · refine ⟨_, _, rfl, h1, (fun _ H1 s1 => ?_), (fun z => by cases z)⟩
      exact ⟨_, _, rfl, h2.same s1, (fun z => by cases z), fun _ => o.same s1⟩
    · refine ⟨_, _, rfl, h1, (fun _ H1 s1 => ?_), (fun z => by cases z)⟩
      walk_at "nm"
      refine ⟨_, _, rfl, h2.same s1, (fun _ H2 s2 => ?_), (fun z => by cases z)⟩
      walk_at "nm"
      have s3 := s1.trans s2
      refine ⟨a, b, p, r, rfl, rfl, hp.same s3, hr'.same s3, _, rfl, ?_⟩
      rcases q with ⟨hl, o⟩ | ⟨hl, q⟩
      · rw [hl, if_pos rfl]
        exact (o.same s3).mk fun Q' q' => ⟨_, rfl, _, rfl, q'⟩
      · rw [hl, if_neg (by decide)]
        refine ⟨_, rfl, _, rfl, x, _, dx, [], rfl, s3 _ _ hx, T.c_Arc, T.n_Arc_own_start, (by decide), ?_⟩
        refine ⟨_, rfl, _, rfl, x, _, dx, _, rfl, upd_same, T.c_Arc, T.n_Arc_own_end, (by rw [putF0]; simp), ?_⟩
        refine q _ ⟨dx, ?_⟩ ((Ex.of_same s3).trans Ex.refl.upd.upd)
        rw [upd_same]
        walk_at "pf"

theorem newArc {K : Frag} {σ : L2.St} {t : TA} {H : Hp} {a b : Addr} {p r : Pt} {Q : VK} {E : XK} (ha : PtAt H a p) (hb : PtAt H b r) (h1 : isPt p = true) (h2 : isPt r = true) (l1 : p.2.length ≤ 1000000) (l2 : r.2.length ≤ 1000000) (lt : ptLt p r = true) (ht : ∀ Q' : List V → Hp → Prop, Q' [V.ref a, V.ref b] H → t σ H Q')
    (q : ∀ G x dx, Same H G → H x = none → G x = some (.ins (ga K "Arc") dx [("own_start", .ref a), ("own_end", .ref b)]) → Q (.ref x) G) : tMake (ga K "Arc") (sp_Arc_init K) [] E t σ H Q := by
  refine ht _ ?_
  intro x dx nx ndx ne
  have s := same_made (o := .own x) (C := ga K "Arc") (fs := []) nx ndx ne
  have ha' := ha.same s
  have hb' := hb.same s
  exact ⟨x, dx, .ref a, .ref b, rfl, upd_same, .inr (.inr ⟨a, b, p, r, rfl, rfl, ha'.ptv h1 l1, hb'.ptv h2 l2, ha', hb', .inr ⟨lt, fun G hx ex => ⟨rfl, let ⟨ldx, hx⟩ := hx; q G x ldx (fun c o h => ex c o (ne_of_none h nx) (s c o h)) nx hx⟩⟩⟩)⟩

theorem newArcT {K : Frag} {σ : L2.St} {t : TA} {H : Hp} {p r : Pt} {Q : VK} {E : XK} (h1 : isPt p = true) (h2 : isPt r = true) (l1 : p.2.length ≤ 1000000) (l2 : r.2.length ≤ 1000000) (lt : ptLt p r = true) (ht : ∀ Q' : List V → Hp → Prop, (∀ G a b, Same H G → PtAt G a p → PtAt G b r → Q' [V.ref a, V.ref b] G) → t σ H Q')
    (q : ∀ G x dx a b, Same H G → H x = none → PtAt G a p → PtAt G b r → G x = some (.ins (ga K "Arc") dx [("own_start", .ref a), ("own_end", .ref b)]) → Q (.ref x) G) : tMake (ga K "Arc") (sp_Arc_init K) [] E t σ H Q := by
  refine ht _ fun G1 a b s1 ha hb => ?_
  intro x dx nx ndx ne
  have s := same_made (o := .own x) (C := ga K "Arc") (fs := []) nx ndx ne
  have ha' := ha.same s
  have hb' := hb.same s
  refine ⟨x, dx, .ref a, .ref b, rfl, upd_same, .inr (.inr ⟨a, b, p, r, rfl, rfl, ha'.ptv h1 l1, hb'.ptv h2 l2, ha', hb', .inr ⟨lt, fun G hx ex => ⟨rfl, ?_⟩⟩⟩)⟩
  obtain ⟨ldx, hx⟩ := hx
  have s3 : Same G1 G := fun c o h => ex c o (ne_of_none h nx) (s c o h)
  exact q G x ldx a b (s1.trans s3) (s1.free nx) (ha.same s3) (hb.same s3) hx

def sp_check_arc (K : Frag) : Sp := fun vs H Q E => ∃ (x : V) (k : Kn), vs = [x] ∧ Is K H x k ∧ (∀ a D, k = .ins a D → D = ga K "Arc") ∧ (k.isC (ga K "Arc") = true → Q .non H) ∧ (k.isC (ga K "Arc") = false → Out2 K E H "InvalidArc" "first" "second" .non .non)
theorem sc_check_arc : FnScope ["value"] ["value"] (defScope s_check_arc) := ⟨rfl, rfl, rfl, by decide +kernel, rfl, by decide +kernel, by decide +kernel⟩
theorem ok_check_arc {P : Program} {w : World} {K : Frag} {mg : Str → Option Value} {base : Heap} (T : Txt K mg) : FnB P w K mg base 3 (glA "check_arc" K) (sp_check_arc K) := by
  refine okD (N := ["value"]) (ps := ["value"]) (k := 2) (d := g_check_arc) T.d_check_arc rfl sc_check_arc (fun vs H Q E h => ?_) (fun _ _ _ _ _ _ us hl => match us, hl with | [_], _ => rfl) (fun A outer s H vs Q E hr h => ?_)
  · obtain ⟨x, k, rfl, hx, hk, q, o⟩ := h
    rfl
  · have hu := hr.hu
    obtain ⟨x, k, rfl, hx, hk, q, o⟩ := h
    refine ⟨_, (pss_one (ps_if (pt_not (pt_val (pe_callB call_isi (by rfl) T.b_isinstance (by decide +kernel) (pa_cons (pv 0) (pa_cons (pe_gc (v := .ref (ga K "Arc")) (by rfl) ⟨_, T.m_Arc, rfl⟩) pa_nil)))))
        (pss_one (ps_raiseC rfl (takes_of rfl rfl rfl rfl) T.r_InvalidArc (ok_InvalidArc_init (K := K) T) hr (pa_cons pe_non (pa_cons pe_non pa_nil))))
        pss_nil)), ?_⟩
    walk_at "nm"
    refine isiC hx T.q_Arc (fun a D e hn => absurd (hk a D e) hn) ?_
    walk_at "nm"
    cases e : k.isC (ga K "Arc") with
    | true =>
      rw [if_neg (by decide)]
      exact q e
    | false =>
      rw [if_pos rfl]
      exact (o e).mk fun Q' q' => q'

/-- a small point -/
abbrev GP (p : Pt) : Prop := SmPt p 2000000
theorem SmPt.mono {p : Pt} {m n : Int} (h : SmPt p m) (l : m ≤ n) : SmPt p n := ⟨h.n0, by have := h.n1; omega, h.pt, h.sm, h.ok⟩
theorem GP.ptv {K : Frag} {H : Hp} {a : Addr} {p : Pt} (g : GP p) (h : PtAt H a p) : PtV K H (.ref a) true := h.ptv g.pt (by have := g.sm; omega)
theorem dep_pt (p : Pt) : (ptD p).depth ≤ 64 := by
  have : (ptD p).depth = 1 := rfl
  omega
theorem GP.shaped {p : Pt} (g : GP p) : SeqAt.shaped (ptD p) = true := by
  refine Bool.and_eq_true_iff.mpr ⟨?_, decide_eq_true (dep_pt p)⟩
  show (true && (PyData.strOk p.2 && true)) = true
  rw [g.ok]
  rfl
theorem shown_pt (p : Pt) : (ptD p).shown = ((Str.ofString "(" ++ ((Str.ofString (toString p.1) ++ Str.ofString ", ") ++ reprText p.2)) ++ Str.ofString ")") := by
  first | rfl | (simp only [ptD, PyData.shown, PyData.shownAll]; rfl)
theorem GP.log {p : Pt} (g : GP p) : p.1.natAbs.log2 < 1920 := by
  have h0 := g.n0
  have h1 := g.n1
  have h : p.1.natAbs < 2 ^ 1920 := Nat.lt_of_lt_of_le (show p.1.natAbs < 2 ^ 21 by omega) (Nat.pow_le_pow_right (by decide) (by decide))
  exact PySem.Flt.log2_lt_of (by decide) h
theorem GP.len {p : Pt} (g : GP p) : (ptD p).shown.length ≤ 3000 := by
  have h0 := g.n0
  have h1 := g.n1
  have e1 : (Str.ofString "(").length = 1 := by decide +kernel
  have e2 : (Str.ofString ", ").length = 2 := by decide +kernel
  have e3 : (Str.ofString ")").length = 1 := by decide +kernel
  have l1 := int_text_len_1921 g.log
  have l2 := StrLaws.reprText_len p.2 (fun c hc => by
    have z := g.ok
    unfold PyData.strOk at z
    rw [← Array.all_toList] at z
    have z2 := List.all_eq_true.mp z c hc
    simp at z2
    omega)
  have l3 := g.sm
  rw [shown_pt]
  simp only [Str.length_append]
  omega
theorem GP.show {p : Pt} (g : GP p) : (ptD p).showable = true := by
  show (decide (p.1.natAbs.log2 < 1920) && (true && true)) = true
  rw [decide_eq_true g.log]
  rfl
theorem GP.rp {K : Frag} {H : Hp} {a : Addr} {p : Pt} (g : GP p) (h : PtAt H a p) : Rp K H (.ref a) (ptD p).shown := .data _ h.dp g.show rfl (dep_pt p) (by have := g.len; rw [sizeLine_eq]; omega)
theorem eqPt {K : Frag} {H : Hp} {a b : Addr} {p q : Pt} {Q : VK} (g1 : GP p) (g2 : GP q) (h1 : PtAt H a p) (h2 : PtAt H b q) (k : Q (.bl (decide (p = q))) H) : rEqD K (.ref a) (.ref b) H Q := by
  refine ⟨_, _, h1.dp, h2.dp, g1.shaped, g2.shaped, ?_⟩
  rw [eqv_ptD]
  exact k
/-- an arc of small points -/
structure ArcG (K : Frag) (H : Hp) (x : Addr) (p q : Pt) : Prop where
  at_ : ArcAt K H x p q
  g1 : GP p
  g2 : GP q
  lt : ptLt p q = true
theorem ArcG.same {K : Frag} {H H' : Hp} {x : Addr} {p q : Pt} (h : ArcG K H x p q) (s : Same H H') : ArcG K H' x p q := ⟨h.at_.same s, h.g1, h.g2, h.lt⟩
/-- Arc(u, v) of small points -/
theorem mkArc {K : Frag} {σ : L2.St} {t : TA} {H : Hp} {a b : Addr} {p r : Pt} {Q : VK} {E : XK} (ha : PtAt H a p) (hb : PtAt H b r) (g1 : GP p) (g2 : GP r) (lt : ptLt p r = true) (ht : ∀ Q' : List V → Hp → Prop, Q' [V.ref a, V.ref b] H → t σ H Q')
    (q : ∀ G x, Same H G → H x = none → ArcG K G x p r → Q (.ref x) G) : tMake (ga K "Arc") (sp_Arc_init K) [] E t σ H Q :=
  newArc ha hb g1.pt g2.pt (by have := g1.sm; omega) (by have := g2.sm; omega) lt ht fun G x dx s n h => q G x s n ⟨⟨dx, a, b, h, ha.same s, hb.same s⟩, g1, g2, lt⟩
theorem mkArcT {K : Frag} {σ : L2.St} {t : TA} {H : Hp} {p r : Pt} {Q : VK} {E : XK} (g1 : GP p) (g2 : GP r) (lt : ptLt p r = true) (ht : ∀ Q' : List V → Hp → Prop, (∀ G a b, Same H G → PtAt G a p → PtAt G b r → Q' [V.ref a, V.ref b] G) → t σ H Q')
    (q : ∀ G x, Same H G → H x = none → ArcG K G x p r → Q (.ref x) G) : tMake (ga K "Arc") (sp_Arc_init K) [] E t σ H Q :=
  newArcT g1.pt g2.pt (by have := g1.sm; omega) (by have := g2.sm; omega) lt ht fun G x dx a b s n ha hb h => q G x s n ⟨⟨dx, a, b, h, ha, hb⟩, g1, g2, lt⟩
def arcText (p q : Pt) : Str := ((((Str.empty ++ ("Arc(" : Str)) ++ (ptD p).shown) ++ (", " : Str)) ++ (ptD q).shown) ++ (")" : Str)
theorem arcText_eq (p q : Pt) : arcText p q = (((Str.ofString "Arc(" ++ (ptD p).shown) ++ Str.ofString ", ") ++ (ptD q).shown) ++ Str.ofString ")" := by
  apply PySem.W.str_of_cps
  unfold arcText
  simp only [tl_app]
  have e1 : Str.empty.cps.toList = [] := rfl
  rw [e1, List.nil_append]
/-- the text of an arc, in an f-string: whatever tells its ends -/
theorem arc_js {K : Frag} {ta tb : TE} {σ : L2.St} {H : Hp} {Q : Str → Hp → Prop} {a b : Addr} {p q : Pt} (g1 : GP p) (g2 : GP q) (h1 : PtAt H a p) (h2 : PtAt H b q) (ha : ∀ Q', Q' (.ref a) H → ta σ H Q') (hb : ∀ Q', Q' (.ref b) H → tb σ H Q') (k : Q (arcText p q) H) :
    tJs [tC (V.str "Arc("), tFmtRD K ta, tC (V.str ", "), tFmtRD K tb, tC (V.str ")")] Str.empty σ H Q := by
  have l1 := g1.len
  have l2 := g2.len
  have e0 : Str.empty.length = 0 := rfl
  have e1 : (Str.ofString "Arc(").length = 4 := by decide +kernel
  have e2 : (Str.ofString ", ").length = 2 := by decide +kernel
  have e3 : (Str.ofString ")").length = 1 := by decide +kernel
  refine ⟨_, rfl, (by rw [Str.length_append, sizeLine_eq]; omega), ?_⟩
  refine ha _ ⟨a, _, rfl, h1.dp, g1.show, rfl, (dep_pt p), (by rw [sizeLine_eq]; omega), _, rfl, (by simp only [Str.length_append, sizeLine_eq]; omega), ?_⟩
  refine ⟨_, rfl, (by simp only [Str.length_append, sizeLine_eq]; omega), ?_⟩
  refine hb _ ⟨b, _, rfl, h2.dp, g2.show, rfl, (dep_pt q), (by rw [sizeLine_eq]; omega), _, rfl, (by simp only [Str.length_append, sizeLine_eq]; omega), ?_⟩
  exact ⟨_, rfl, (by simp only [Str.length_append, sizeLine_eq]; omega), k⟩

def sp_Arc_start (K : Frag) : Sp := fun vs H Q _ => ∃ (x dx a b : Addr), vs = [.ref x] ∧ H x = some (.ins (ga K "Arc") dx [("own_start", .ref a), ("own_end", .ref b)]) ∧ Q (.ref a) H
theorem sc_Arc_start : FnScope ["self"] ["self"] (defScope s_Arc_start) := ⟨rfl, rfl, rfl, by decide +kernel, rfl, by decide +kernel, by decide +kernel⟩
theorem ok_Arc_start {P : Program} {w : World} {K : Frag} {mg : Str → Option Value} {base : Heap} (T : Txt K mg) : FnB P w K mg base 1 (gtA "Arc" "start" K) (sp_Arc_start K) := by
  refine okD (N := ["self"]) (ps := ["self"]) (k := 0) (d := g_Arc_start) T.d_Arc_start rfl sc_Arc_start (fun vs H Q E h => ?_) (fun _ _ _ _ _ _ us hl => match us, hl with | [_], _ => rfl) (fun A outer s H vs Q E hr h => ?_)
  · obtain ⟨x, dx, a, b, rfl, hx, q⟩ := h
    rfl
  · have hu := hr.hu
    obtain ⟨x, dx, a, b, rfl, hx, q⟩ := h
    refine ⟨_, PSs.nox ((pss_one (ps_ret (pe_fld (pv 0) rfl)))), ?_⟩
    exact ⟨_, rfl, x, _, dx, _, _, rfl, hx, T.c_Arc, T.n_Arc_own_start, (by walk_at "lk"), q⟩

def sp_Arc_end (K : Frag) : Sp := fun vs H Q _ => ∃ (x dx a b : Addr), vs = [.ref x] ∧ H x = some (.ins (ga K "Arc") dx [("own_start", .ref a), ("own_end", .ref b)]) ∧ Q (.ref b) H
theorem sc_Arc_end : FnScope ["self"] ["self"] (defScope s_Arc_end) := ⟨rfl, rfl, rfl, by decide +kernel, rfl, by decide +kernel, by decide +kernel⟩
theorem ok_Arc_end {P : Program} {w : World} {K : Frag} {mg : Str → Option Value} {base : Heap} (T : Txt K mg) : FnB P w K mg base 1 (gtA "Arc" "end" K) (sp_Arc_end K) := by
  refine okD (N := ["self"]) (ps := ["self"]) (k := 0) (d := g_Arc_end) T.d_Arc_end rfl sc_Arc_end (fun vs H Q E h => ?_) (fun _ _ _ _ _ _ us hl => match us, hl with | [_], _ => rfl) (fun A outer s H vs Q E hr h => ?_)
  · obtain ⟨x, dx, a, b, rfl, hx, q⟩ := h
    rfl
  · have hu := hr.hu
    obtain ⟨x, dx, a, b, rfl, hx, q⟩ := h
    refine ⟨_, PSs.nox ((pss_one (ps_ret (pe_fld (pv 0) rfl)))), ?_⟩
    exact ⟨_, rfl, x, _, dx, _, _, rfl, hx, T.c_Arc, T.n_Arc_own_end, (by walk_at "lk"), q⟩

def inArc (p q s : Pt) : Bool := !ptLt s p && ptLt s q
def sp_Arc_contains (K : Frag) : Sp := fun vs H Q _ => ∃ (x : Addr) (v : V) (b : Bool) (p q : Pt), vs = [.ref x, v] ∧ ArcAt K H x p q ∧ PtV K H v b ∧ ((b = false ∧ ∀ H', Same H H' → Q (.bl false) H') ∨ ∃ (a : Addr) (s : Pt), b = true ∧ v = .ref a ∧ PtAt H a s ∧ ∀ H', Same H H' → Q (.bl (inArc p q s)) H')
theorem sc_Arc_contains : FnScope ["self", "value"] ["self", "value"] (defScope s_Arc_contains) := ⟨rfl, rfl, rfl, by decide +kernel, rfl, by decide +kernel, by decide +kernel⟩
theorem ok_Arc_contains {P : Program} {w : World} {K : Frag} {mg : Str → Option Value} {base : Heap} (T : Txt K mg) : FnB P w K mg base 4 (mtA "Arc" "__contains__" K) (sp_Arc_contains K) := by
  refine okD (N := ["self", "value"]) (ps := ["self", "value"]) (k := 3) (d := g_Arc_contains) T.d_Arc_contains rfl sc_Arc_contains (fun vs H Q E h => ?_) (fun _ _ _ _ _ _ us hl => match us, hl with | [_, _], _ => rfl) (fun A outer s H vs Q E hr h => ?_)
  · obtain ⟨x, v, b, p, r, rfl, hx, hv, q⟩ := h
    rfl
  · have hu := hr.hu
    obtain ⟨x, v, b, p, r, rfl, hx, hv, q⟩ := h
    refine ⟨_, PSs.nox ((pss_one (ps_ret (pe_and (pe_cF (ok_is_point (K := K) T) hr T.m_is_point passL (pa_cons (pv 1) pa_nil)) (pe_one (pe_chain (op_leP (hu64 hr)) (op_ltP (hu64 hr)) (pe_fld (pv 0) rfl) (pv 1) (pe_fld (pv 0) rfl))))))), ?_⟩
    walk_at "nm"
    refine ⟨_, b, rfl, hv, fun H1 s1 => ?_⟩
    rcases q with ⟨rfl, q⟩ | ⟨a, s', rfl, rfl, ha, q⟩
    · refine ⟨_, rfl, ?_⟩
      rw [if_neg (by decide)]
      exact q H1 s1
    obtain ⟨dx, u, v, h1, h2, h3⟩ := hx.same s1
    have ha1 := ha.same s1
    refine ⟨_, rfl, ?_⟩
    rw [if_pos rfl]
    refine ⟨_, rfl, x, _, dx, _, _, rfl, h1, T.c_Arc, T.n_Arc_own_start, (by walk_at "lk"), u, a, p, s', rfl, rfl, h2, ha1, _, rfl, ?_⟩
    have q' : ∀ c, c = inArc p r s' → Q (.bl c) H1 := fun c e => by
      rw [e]
      exact q H1 s1
    by_cases e : ptLt s' p = true
    · rw [if_neg (by simp [e])]
      exact q' _ (by simp [inArc, e])
    · rw [if_pos (by simp [e])]
      exact ⟨_, rfl, x, _, dx, _, _, rfl, h1, T.c_Arc, T.n_Arc_own_end, (by walk_at "lk"), a, v, s', r, rfl, rfl, ha1, h3, q' _ (by simp [inArc, e])⟩

def sp_Arc_eq (K : Frag) : Sp := fun vs H Q _ => ∃ (x : Addr) (p q : Pt) (y : V) (k : Kn), vs = [.ref x, y] ∧ ArcG K H x p q ∧ Is K H y k ∧
  ((k.isC (ga K "Arc") = false ∧ (∀ a D, k ≠ .ins a D) ∧ Q (.bl false) H) ∨ (∃ (a : Addr) (p' q' : Pt), k = .ins a (ga K "Arc") ∧ y = .ref a ∧ ArcG K H a p' q' ∧ Q (.bl (decide (p = p') && decide (q = q'))) H))
theorem sc_Arc_eq : FnScope ["self", "other"] ["self", "other"] (defScope s_Arc_eq) := ⟨rfl, rfl, rfl, by decide +kernel, rfl, by decide +kernel, by decide +kernel⟩
theorem ok_Arc_eq {P : Program} {w : World} {K : Frag} {mg : Str → Option Value} {base : Heap} (T : Txt K mg) : FnB P w K mg base 3 (mtA "Arc" "__eq__" K) (sp_Arc_eq K) := by
  refine okD (N := ["self", "other"]) (ps := ["self", "other"]) (k := 2) (d := g_Arc_eq) T.d_Arc_eq rfl sc_Arc_eq (fun vs H Q E h => ?_) (fun _ _ _ _ _ _ us hl => match us, hl with | [_, _], _ => rfl) (fun A outer s H vs Q E hr h => ?_)
  · obtain ⟨x, p, r, y, k, rfl, hx, hy, q⟩ := h
    rfl
  · have hu := hr.hu
    obtain ⟨x, p, r, y, k, rfl, hx, hy, q⟩ := h
    refine ⟨_, PSs.nox ((pss_one (ps_ret (pe_and (pe_callB call_isi (by rfl) T.b_isinstance (by decide +kernel) (pa_cons (pv 1) (pa_cons (pe_gc (v := .ref (ga K "Arc")) (by rfl) ⟨_, T.m_Arc, rfl⟩) pa_nil))) (pe_and (pe_cmpR (op_eqD (hu64 hr)) (pe_fld (pv 0) rfl) (pe_prF (pv 1) T.c_Arc T.p_Arc_start (ok_Arc_start (K := K) T) hr passL) (nomark _)) (pe_one (pe_cmpR (op_eqD (hu64 hr)) (pe_fld (pv 0) rfl) (pe_prF (pv 1) T.c_Arc T.p_Arc_end (ok_Arc_end (K := K) T) hr passL) (nomark _)))))))), ?_⟩
    obtain ⟨⟨dx, u, v, h1, h2, h3⟩, g1, g2, _⟩ := hx
    walk_at "nm"
    refine isiC hy T.q_Arc ?_ ?_
    · rcases q with ⟨_, q, _⟩ | ⟨a, p', q', rfl, _, _⟩
      · intro a D e
        exact absurd e (q a D)
      · intro a' D e hn
        cases e
        exact absurd rfl hn
    · walk_at "nm"
      rcases q with ⟨e, _, q⟩ | ⟨a, p', r', rfl, rfl, ⟨⟨dy, u', v', k1, k2, k3⟩, g3, g4, _⟩, q⟩
      · rw [e]
        exact iteF q
      · have e : (Kn.ins a (ga K "Arc")).isC (ga K "Arc") = true := decide_eq_true rfl
        rw [e]
        refine iteT ?_
        refine ⟨_, rfl, x, _, dx, _, _, rfl, h1, T.c_Arc, T.n_Arc_own_start, (by walk_at "lk"), ?_⟩
        refine ⟨_, rfl, a, dy, _, rfl, k1, a, dy, u', v', rfl, k1, eqPt g1 g3 h2 k2 ⟨_, rfl, ?_⟩⟩
        by_cases h : p = p'
        · subst h
          rw [decide_eq_true rfl]
          refine iteT ?_
          refine ⟨_, rfl, x, _, dx, _, _, rfl, h1, T.c_Arc, T.n_Arc_own_end, (by walk_at "lk"), ?_⟩
          refine ⟨_, rfl, a, dy, _, rfl, k1, a, dy, u', v', rfl, k1, eqPt g2 g4 h3 k3 ?_⟩
          simpa using q
        · rw [decide_eq_false h]
          refine iteF ?_
          simpa [h] using q

def sp_Arc_repr (K : Frag) : Sp := fun vs H Q _ => ∃ (x : Addr) (p q : Pt), vs = [.ref x] ∧ ArcG K H x p q ∧ Q (.str (arcText p q)) H
theorem sc_Arc_repr : FnScope ["self"] ["self"] (defScope s_Arc_repr) := ⟨rfl, rfl, rfl, by decide +kernel, rfl, by decide +kernel, by decide +kernel⟩
theorem ok_Arc_repr {P : Program} {w : World} {K : Frag} {mg : Str → Option Value} {base : Heap} (T : Txt K mg) : FnB P w K mg base 1 (mtA "Arc" "__repr__" K) (sp_Arc_repr K) := by
  refine okD (N := ["self"]) (ps := ["self"]) (k := 0) (d := g_Arc_repr) T.d_Arc_repr rfl sc_Arc_repr (fun vs H Q E h => ?_) (fun _ _ _ _ _ _ us hl => match us, hl with | [_], _ => rfl) (fun A outer s H vs Q E hr h => ?_)
  · obtain ⟨x, p, r, rfl, ⟨⟨dx, u, v, h1, h2, h3⟩, g1, g2, _⟩, q⟩ := h
    rfl
  · have hu := hr.hu
    obtain ⟨x, p, r, rfl, ⟨⟨dx, u, v, h1, h2, h3⟩, g1, g2, _⟩, q⟩ := h
    refine ⟨_, PSs.nox ((pss_one (ps_ret (pe_joined (pj_cons pe_str (pj_cons (pe_fmtRD hr.g (hu64 hr) (pe_fld (pv 0) rfl)) (pj_cons pe_str (pj_cons (pe_fmtRD hr.g (hu64 hr) (pe_fld (pv 0) rfl)) (pj_cons pe_str pj_nil))))))))), ?_⟩
    exact arc_js g1 g2 h2 h3 (fun Q' q' => ⟨_, rfl, x, _, dx, _, _, rfl, h1, T.c_Arc, T.n_Arc_own_start, (by walk_at "lk"), q'⟩) (fun Q' q' => ⟨_, rfl, x, _, dx, _, _, rfl, h1, T.c_Arc, T.n_Arc_own_end, (by walk_at "lk"), q'⟩) q

theorem putK_keys {κ : Type} [DecidableEq κ] (kvs : List (κ × V)) (k : κ) (v : V) : (putK kvs k v).map (·.1) = if k ∈ kvs.map (·.1) then kvs.map (·.1) else kvs.map (·.1) ++ [k] := by
  by_cases h : k ∈ kvs.map (·.1)
  · rw [if_pos h]
    have e := h
    obtain ⟨p, hp, rfl⟩ := List.mem_map.mp h
    have ha : kvs.any (fun x => x.1 = p.1) = true := List.any_eq_true.mpr ⟨p, hp, by simp⟩
    unfold putK
    simp only [ha, if_true]
    rw [List.map_map]
    apply List.map_congr_left
    intro x hx
    simp only [Function.comp_apply]
    split
    · rename_i e2
      simp_all
    · rfl
  · rw [if_neg h]
    have ha : kvs.any (fun x => x.1 = k) = false := by
      rw [Bool.eq_false_iff]
      intro z
      obtain ⟨x, hx, e⟩ := List.any_eq_true.mp z
      exact h (List.mem_map.mpr ⟨x, hx, by simpa using e⟩)
    unfold putK
    simp [ha]
theorem ptKey_inj {p q : Pt} (h : ptKey p = ptKey q) : p = q := by
  obtain ⟨n, z⟩ := p
  obtain ⟨m, y⟩ := q
  simp only [ptKey, List.cons.injEq, Sum.inl.injEq, Sum.inr.injEq, and_true] at h
  rw [h.1, h.2]
theorem ptKey_mem {p : Pt} {us : List Pt} : ptKey p ∈ us.map ptKey ↔ p ∈ us := by
  constructor
  · intro h
    obtain ⟨q, hq, e⟩ := List.mem_map.mp h
    rw [← ptKey_inj e]
    exact hq
  · exact fun h => List.mem_map.mpr ⟨p, h, rfl⟩
/-- {p: True for p in list if ..}, the list of points -/
theorem dc_pts {K : Frag} {tl tk tv : TE} {tt : TT} {σ : L2.St} {i : Nat} {H : Hp} {L : Addr} {as : List Addr} {ps : List Pt} {c : Pt → Bool} {Q : VK} (hL : H L = some (.lst (as.map V.ref))) (hp : PtsAt H as ps) (few : ps.length ≤ 1000)
    (hl : ∀ Q', Q' (.ref L) H → tl σ H Q')
    (ht : ∀ a p G Q', p ∈ ps → PtAt G a p → Same H G → (∀ G', Same G G' → Q' (c p) G') → tt ((wipe σ [i]).set i (some (.ref a))) G Q')
    (hk : ∀ a G Q', Q' (.ref a) G → tk ((wipe σ [i]).set i (some (.ref a))) G Q')
    (hv : ∀ a G Q', Q' (.bl true) G → tv ((wipe σ [i]).set i (some (.ref a))) G Q')
    (hw : ∀ x, wipe ((wipe σ [i]).set i (some x)) [i] = wipe σ [i])
    (q : ∀ H' D (kvs : List (List Key × V)) (us : List Pt), Same H H' → H D = none → H' D = some (.dT kvs) → kvs.map (·.1) = us.map ptKey → us.Nodup → (∀ p, p ∈ us ↔ p ∈ ps ∧ c p = true) → us.length ≤ ps.length → Q (.ref D) H') : tDcT (iList K tl) (gName i) tt tk tv [i] σ H Q := by
  refine hl _ ⟨L, rfl, ⟨_, SqL.of hL⟩, fun D hD => ?_⟩
  have w := walk_list (K := K) (a := L) (xs := as.map V.ref)
  have hln := hp.len
  let Pv : Nat → Hp → Prop := fun j H2 => ∃ (kvs : List (List Key × V)) (us : List Pt), H2 D = some (.dT kvs) ∧ kvs.map (·.1) = us.map ptKey ∧ us.Nodup ∧ (∀ p, p ∈ us ↔ p ∈ ps.take j ∧ c p = true) ∧ us.length ≤ j ∧ Same H H2
  refine ⟨fun j m H2 => m = as.length - j ∧ j ≤ as.length ∧ Pv j H2, ⟨as.length, by simp, Nat.zero_le _, [], [], upd_same, rfl, List.nodup_nil, (fun p => by simp), Nat.le_refl _, Same.upd (Same.refl _) hD⟩, ?_⟩
  rintro j m H2 ⟨rfl, hj, kvs, us, hD2, hks, hnd, hm, hlen, s⟩
  have hsq : SqL K H2 L (as.map V.ref) := SqL.of (s _ _ hL)
  by_cases hlt : j < as.length
  · refine .inr ⟨w.goes j H2 (by simpa using hlt) hsq, Pv (j + 1), fun H' p' => ⟨as.length - (j + 1), by omega, rfl, hlt, p'⟩, fun x H3 y => ?_⟩
    obtain ⟨rfl, hy⟩ := w.yields j H2 x H3 (by simpa using hlt) hsq y
    obtain ⟨a, ea, rfl⟩ : ∃ a, as[j]? = some a ∧ x = .ref a := by
      rw [List.getElem?_map] at hy
      cases e : as[j]? with
      | none =>
        rw [e] at hy
        cases hy
      | some a =>
        rw [e] at hy
        cases hy
        exact ⟨a, rfl, rfl⟩
    obtain ⟨p, er, ha⟩ := hp.at ea
    have etake : ps.take (j + 1) = ps.take j ++ [p] := by
      rw [List.take_add_one, er]
      rfl
    refine ⟨hw _, ht a p H3 _ (List.mem_of_getElem? er) (ha.same s) s fun H4 s4 => ?_⟩
    have s34 := s.trans s4
    have hD4 := s4 _ _ hD2
    cases hcp : c p with
    | true =>
      rw [if_pos rfl]
      refine hk a H4 _ (hv a H4 _ ⟨kvs, ptKey p, a, rfl, ha.same s34, hD4, ?_, ?_⟩)
      · have : kvs.length = us.length := by
          have z := congrArg List.length hks
          simpa using z
        rw [sizeLine_eq]
        omega
      · by_cases hpu : p ∈ us
        · refine ⟨_, us, upd_same, ?_, hnd, fun r => ?_, by omega, fun b o hbo => ?_⟩
          · rw [putK_keys, hks, if_pos (ptKey_mem.mpr hpu)]
          · rw [hm r, etake, List.mem_append, List.mem_singleton]
            constructor
            · exact fun h => ⟨.inl h.1, h.2⟩
            · rintro ⟨h | rfl, h2⟩
              · exact ⟨h, h2⟩
              · exact (hm r).mp hpu
          · rw [upd_ne (ne_of_none hbo hD)]
            exact s34 _ _ hbo
        · refine ⟨_, us ++ [p], upd_same, ?_, ?_, fun r => ?_, ?_, fun b o hbo => ?_⟩
          · rw [putK_keys, hks, if_neg (fun h => hpu (ptKey_mem.mp h)), List.map_append]
            rfl
          · rw [List.nodup_append]
            refine ⟨hnd, by simp, fun x hx y hy => ?_⟩
            rw [List.mem_singleton] at hy
            subst hy
            exact fun e => hpu (e ▸ hx)
          · rw [List.mem_append, List.mem_singleton, hm r, etake, List.mem_append, List.mem_singleton]
            constructor
            · rintro (h | rfl)
              · exact ⟨.inl h.1, h.2⟩
              · exact ⟨.inr rfl, hcp⟩
            · rintro ⟨h | rfl, h2⟩
              · exact .inl ⟨h, h2⟩
              · exact .inr rfl
          · rw [List.length_append]
            simp
            omega
          · rw [upd_ne (ne_of_none hbo hD)]
            exact s34 _ _ hbo
    | false =>
      rw [if_neg (by decide)]
      refine ⟨kvs, us, hD4, hks, hnd, fun r => ?_, by omega, s34⟩
      rw [hm r, etake, List.mem_append, List.mem_singleton]
      constructor
      · exact fun h => ⟨.inl h.1, h.2⟩
      · rintro ⟨h | rfl, h2⟩
        · exact ⟨h, h2⟩
        · rw [hcp] at h2
          cases h2
  · have e : j = as.length := by omega
    subst e
    have w2 := w.stops H2 hsq
    rw [List.length_map] at w2
    rw [hln, List.take_length] at hm
    exact .inl ⟨w2, q H2 D kvs us s hD hD2 hks hnd hm (by omega)⟩
/-- arcs lie at these addresses, one between two neighbours -/
structure ArcsAt (K : Frag) (H : Hp) (xs : List Addr) (ms : List Pt) : Prop where
  len : xs.length + 1 = ms.length
  arc : ∀ (i : Nat) x u v, xs[i]? = some x → ms[i]? = some u → ms[i + 1]? = some v → ArcG K H x u v
theorem ArcsAt.same {K : Frag} {H H' : Hp} {xs : List Addr} {ms : List Pt} (h : ArcsAt K H xs ms) (s : Same H H') : ArcsAt K H' xs ms := ⟨h.len, fun i x u v h1 h2 h3 => (h.arc i x u v h1 h2 h3).same s⟩
/-- [Arc(ms[at], ms[at + 1]) for at in range(len(ms) - 1)] -/
theorem lc_arcs {K : Frag} {te : TE} {σ : L2.St} {i : Nat} {H : Hp} {ms : List Pt} {D : Addr} {n : Nat} {Qd : Hp → Prop} (hD : H D = none) (hn : n + 1 = ms.length) (few : ms.length ≤ 2000)
    (he : ∀ (j : Nat) u v G Q', ms[j]? = some u → ms[j + 1]? = some v → Same H G → (∀ G' x, Same G G' → G x = none → ArcG K G' x u v → Q' (.ref x) G') → te ((wipe σ [i]).set i (some (.int (0 + (j : Int))))) G Q')
    (hw : ∀ x, wipe ((wipe σ [i]).set i (some x)) [i] = wipe σ [i])
    (q : ∀ H' xs, Same H H' → H' D = some (.lst (xs.map V.ref)) → ArcsAt K H' xs ms → Qd H') :
    ∃ W : Nat → Nat → Hp → Prop, (∃ m, W 0 m (upd H D (.lst []))) ∧ ∀ j m H, W j m H →
      ((Itr 0 n).stop j H ∧ Qd H) ∨ ((Itr 0 n).go j H ∧ ∃ Nx : Hp → Prop, (∀ H', Nx H' → ∃ m', m' < m ∧ W (j + 1) m' H') ∧ ∀ x H', (Itr 0 n).yld j H x H' → gName i x (wipe σ [i]) H' fun σ2 H2 => wipe σ2 [i] = wipe σ [i] ∧ tYes σ2 H2 fun b H3 =>
        if b = true then te σ2 H3 fun y H4 => ∃ acc, H4 D = some (.lst acc) ∧ acc.length < sizeLine ∧ Nx (upd H4 D (.lst (acc ++ [y]))) else Nx H3) := by
  refine lc_it walk_range (fun j H2 => ∃ xs : List Addr, H2 D = some (.lst (xs.map V.ref)) ∧ xs.length = j ∧ (∀ (i : Nat) x u v, xs[i]? = some x → ms[i]? = some u → ms[i + 1]? = some v → ArcG K H2 x u v) ∧ Same H H2) ?_ (fun _ _ _ _ => trivial) ?_ ?_
  · exact ⟨[], upd_same, rfl, (fun i x u v h => by simp at h), Same.upd (Same.refl _) hD⟩
  · rintro j x H2 H3 hj ⟨xs, hb, hl, ha, s⟩ ⟨rfl, rfl⟩
    refine ⟨hw _, ?_⟩
    dsimp only [tYes]
    rw [if_pos rfl]
    have j1 : j < ms.length := by omega
    have j2 : j + 1 < ms.length := by omega
    refine he j ms[j] ms[j + 1] H3 _ (List.getElem?_eq_getElem j1) (List.getElem?_eq_getElem j2) s fun H4 x s4 nx hx => ?_
    have hb4 := s4 _ _ hb
    have s34 := s.trans s4
    have tk : ∀ {y u v}, ArcG K H4 y u v → ArcG K (upd H4 D (.lst (xs.map V.ref ++ [.ref x]))) y u v := fun {y u v} h => by
      obtain ⟨⟨dx, a, b, h1, h2, h3⟩, g1, g2, lt⟩ := h
      have k : ∀ {c : Addr} {o : HO}, H4 c = some o → (∀ xs, o ≠ .lst xs) → upd H4 D (.lst (xs.map V.ref ++ [.ref x])) c = some o := fun {c o} h1 h2 => by
        rw [upd_ne (fun z => by subst z; rw [hb4] at h1; cases h1; exact h2 _ rfl)]
        exact h1
      exact ⟨⟨dx, a, b, k h1 (fun _ z => by cases z), k h2 (fun _ z => by cases z), k h3 (fun _ z => by cases z)⟩, g1, g2, lt⟩
    refine ⟨_, hb4, (by rw [List.length_map, sizeLine_eq]; omega), xs ++ [x], ?_, ?_, ?_, ?_⟩
    · rw [upd_same, List.map_append]
      rfl
    · rw [List.length_append, hl]
      rfl
    · intro i' y u v h1 h2 h3
      by_cases e : i' < xs.length
      · rw [List.getElem?_append_left e] at h1
        exact tk ((ha i' y u v h1 h2 h3).same s4)
      · have hi' := (List.getElem?_eq_some_iff.mp h1).1
        rw [List.length_append] at hi'
        simp at hi'
        have e2 : i' = j := by omega
        subst e2
        rw [List.getElem?_append_right (by omega), hl, Nat.sub_self] at h1
        simp at h1
        subst h1
        rw [List.getElem?_eq_getElem j1] at h2
        rw [List.getElem?_eq_getElem j2] at h3
        cases h2
        cases h3
        exact tk hx
    · intro b o hbo
      rw [upd_ne (ne_of_none hbo hD)]
      exact s34 _ _ hbo
  · rintro H2 ⟨xs, hb, hl, ha, s⟩
    exact q H2 xs s hb ⟨by omega, ha⟩
/-- the points of an arc that is divided -/
def Ends (p q : Pt) (ps ms : List Pt) : Prop := ∃ qs, ms = p :: (qs ++ [q]) ∧ qs.Pairwise (fun a b => ptLt a b = true) ∧ ∀ s, s ∈ qs ↔ s ∈ ps ∧ ptLt p s = true ∧ ptLt s q = true
theorem strict_uniq : ∀ {l m : List Pt}, l.Pairwise (fun a b => ptLt a b = true) → m.Pairwise (fun a b => ptLt a b = true) → (∀ s, s ∈ l ↔ s ∈ m) → l = m
  | [], [], _, _, _ => rfl
  | [], y :: m, _, _, h => absurd ((h y).mpr List.mem_cons_self) (by simp)
  | x :: l, [], _, _, h => absurd ((h x).mp List.mem_cons_self) (by simp)
  | x :: l, y :: m, hl, hm, h => by
    have a1 := List.pairwise_cons.mp hl
    have a2 := List.pairwise_cons.mp hm
    have irr : ∀ z : Pt, ¬ ptLt z z = true := fun z e => by rw [ptLt_irrefl] at e; cases e
    have e : x = y := by
      rcases List.mem_cons.mp ((h x).mp List.mem_cons_self) with e | hx
      · exact e
      · rcases List.mem_cons.mp ((h y).mpr List.mem_cons_self) with e | hy
        · exact e.symm
        · exact absurd (ptLt_trans (a1.1 y hy) (a2.1 x hx)) (irr x)
    subst e
    rw [strict_uniq a1.2 a2.2 fun s => ?_]
    constructor
    · intro hs
      rcases List.mem_cons.mp ((h s).mp (List.mem_cons_of_mem _ hs)) with e | hs'
      · subst e
        exact absurd (a1.1 s hs) (irr s)
      · exact hs'
    · intro hs
      rcases List.mem_cons.mp ((h s).mpr (List.mem_cons_of_mem _ hs)) with e | hs'
      · subst e
        exact absurd (a2.1 s hs) (irr s)
      · exact hs'
theorem Ends.uniq {p q : Pt} {ps ms ns : List Pt} (h : Ends p q ps ms) (g : Ends p q ps ns) : ms = ns := by
  obtain ⟨l, rfl, h1, h2⟩ := h
  obtain ⟨m, rfl, g1, g2⟩ := g
  rw [strict_uniq h1 g1 fun s => (h2 s).trans (g2 s).symm]
/-- sorted, no point twice: strictly sorted -/
theorem strict_of {qs : List Pt} (h : PtOrd qs) (nd : qs.Nodup) : qs.Pairwise (fun a b => ptLt a b = true) := by
  have z := List.pairwise_and_iff.mpr ⟨h, nd⟩
  refine z.imp fun {a b} hab => ?_
  cases e : ptLt a b with
  | true => rfl
  | false => exact absurd (ptLt_total e hab.1) hab.2
/-- neighbours in the ends are in order -/
theorem Ends.lt {p q : Pt} {ps ms : List Pt} (h : Ends p q ps ms) (lt : ptLt p q = true) {i : Nat} {u v : Pt} (hu : ms[i]? = some u) (hv : ms[i + 1]? = some v) : ptLt u v = true := by
  obtain ⟨qs, rfl, h1, h2⟩ := h
  have pw : (p :: (qs ++ [q])).Pairwise (fun a b => ptLt a b = true) := by
    refine List.pairwise_cons.mpr ⟨fun s hs => ?_, List.pairwise_append.mpr ⟨h1, by simp, fun a ha b hb => ?_⟩⟩
    · rcases List.mem_append.mp hs with hs | hs
      · exact ((h2 s).mp hs).2.1
      · rw [List.mem_singleton] at hs
        subst hs
        exact lt
    · rw [List.mem_singleton] at hb
      subst hb
      exact ((h2 a).mp ha).2.2
  have hi := (List.getElem?_eq_some_iff.mp hu)
  have hj := (List.getElem?_eq_some_iff.mp hv)
  obtain ⟨hi, rfl⟩ := hi
  obtain ⟨hj, rfl⟩ := hj
  exact List.pairwise_iff_getElem.mp pw i (i + 1) hi hj (Nat.lt_succ_self i)
theorem Ends.mem {p q : Pt} {ps ms : List Pt} (h : Ends p q ps ms) (gp : GP p) (gq : GP q) (gs : ∀ s ∈ ps, GP s) : ∀ s ∈ ms, GP s := by
  obtain ⟨qs, rfl, h1, h2⟩ := h
  intro s hs
  rcases List.mem_cons.mp hs with rfl | hs
  · exact gp
  · rcases List.mem_append.mp hs with hs | hs
    · exact gs s ((h2 s).mp hs).1
    · rw [List.mem_singleton] at hs
      subst hs
      exact gq

def ptMax (p q : Pt) : Pt := if ptLt p q then q else p
def ptMin (p q : Pt) : Pt := if ptLt q p then q else p
theorem GP.max {p q : Pt} (h : GP p) (g : GP q) : GP (ptMax p q) := by
  unfold ptMax
  split
  · exact g
  · exact h
theorem GP.min {p q : Pt} (h : GP p) (g : GP q) : GP (ptMin p q) := by
  unfold ptMin
  split
  · exact g
  · exact h
theorem maxPt {H : Hp} {a b : Addr} {p q : Pt} {Q : VK} (h1 : PtAt H a p) (h2 : PtAt H b q) (k : ∀ c, PtAt H c (ptMax p q) → Q (.ref c) H) : rMaxP [.ref a, .ref b] H Q := by
  refine ⟨a, b, p, q, rfl, h1, h2, ?_⟩
  unfold ptMax at k
  cases e : ptLt p q with
  | true =>
    rw [e] at k
    exact k b h2
  | false =>
    rw [e] at k
    exact k a h1
theorem minPt {H : Hp} {a b : Addr} {p q : Pt} {Q : VK} (h1 : PtAt H a p) (h2 : PtAt H b q) (k : ∀ c, PtAt H c (ptMin p q) → Q (.ref c) H) : rMinP [.ref a, .ref b] H Q := by
  refine ⟨a, b, p, q, rfl, h1, h2, ?_⟩
  unfold ptMin at k
  cases e : ptLt q p with
  | true =>
    rw [e] at k
    exact k b h2
  | false =>
    rw [e] at k
    exact k a h1
/-- what lies in both arcs -/
def MeetAt (K : Frag) (H : Hp) (v : V) (p q p' q' : Pt) : Prop := (ptLt (ptMax p p') (ptMin q q') = false ∧ v = .non) ∨ (ptLt (ptMax p p') (ptMin q q') = true ∧ ∃ x, v = .ref x ∧ ArcG K H x (ptMax p p') (ptMin q q'))
theorem MeetAt.same {K : Frag} {H H' : Hp} {v : V} {p q p' q' : Pt} (h : MeetAt K H v p q p' q') (s : Same H H') : MeetAt K H' v p q p' q' := by
  rcases h with h | ⟨h, x, e, a⟩
  · exact .inl h
  · exact .inr ⟨h, x, e, a.same s⟩
def sp_Arc_and (K : Frag) : Sp := fun vs H Q _ => ∃ (x y : Addr) (p q p' q' : Pt), vs = [.ref x, .ref y] ∧ ArcG K H x p q ∧ ArcG K H y p' q' ∧ ∀ v H', Same H H' → MeetAt K H' v p q p' q' → Q v H'
theorem sc_Arc_and : FnScope ["self", "other", "start", "end"] ["self", "other"] (defScope s_Arc_and) := ⟨rfl, rfl, rfl, by decide +kernel, rfl, by decide +kernel, by decide +kernel⟩
theorem ok_Arc_and {P : Program} {w : World} {K : Frag} {mg : Str → Option Value} {base : Heap} (T : Txt K mg) : FnB P w K mg base 7 (mtA "Arc" "__and__" K) (sp_Arc_and K) := by
  refine okD (N := ["self", "other", "start", "end"]) (ps := ["self", "other"]) (k := 6) (d := g_Arc_and) T.d_Arc_and rfl sc_Arc_and (fun vs H Q E h => ?_) (fun _ _ _ _ _ _ us hl => match us, hl with | [_, _], _ => rfl) (fun A outer s H vs Q E hr h => ?_)
  · obtain ⟨x, y, p, r, p', r', rfl, ⟨⟨dx, u, v, h1, h2, h3⟩, g1, g2, _⟩, ⟨⟨dy, u', v', k1, k2, k3⟩, g3, g4, _⟩, q⟩ := h
    rfl
  · have hu := hr.hu
    obtain ⟨x, y, p, r, p', r', rfl, ⟨⟨dx, u, v, h1, h2, h3⟩, g1, g2, _⟩, ⟨⟨dy, u', v', k1, k2, k3⟩, g3, g4, _⟩, q⟩ := h
    refine ⟨_, PSs.nox ((pss_cons (ps_if (pt_not (pt_val (pe_callB call_isi (by rfl) T.b_isinstance (by decide +kernel) (pa_cons (pv 1) (pa_cons (pe_gc (v := .ref (ga K "Arc")) (by rfl) ⟨_, T.m_Arc, rfl⟩) pa_nil)))))
        (pss_one ps_never)
        pss_nil)
      (pss_cons (ps_par (i := 2) (j := 3) (by rfl) sc_Arc_and.nd rfl rfl (by decide) rfl rfl (pa_cons (pe_callB (call_maxP rfl (hu64 hr)) (by rfl) T.b_max (by decide +kernel) (pa_cons (pe_fld (pv 0) rfl) (pa_cons (pe_prF (pv 1) T.c_Arc T.p_Arc_start (ok_Arc_start (K := K) T) hr passL) pa_nil))) (pa_cons (pe_callB (call_minP rfl (hu64 hr)) (by rfl) T.b_min (by decide +kernel) (pa_cons (pe_fld (pv 0) rfl) (pa_cons (pe_prF (pv 1) T.c_Arc T.p_Arc_end (ok_Arc_end (K := K) T) hr passL) pa_nil))) pa_nil)) (by rfl))
      (pss_one (ps_ret (pe_ifExp (pt_cmpR (op_ltP (hu64 hr)) (pv 2) (pv 3) (nomark _)) (pe_mkF T.k_Arc (ok_Arc_init (K := K) T) hr T.m_Arc passL (pa_cons (pv 2) (pa_cons (pv 3) pa_nil))) pe_non)))))), ?_⟩
    walk_at "nm"
    refine isiC (.ins k1 T.o_Arc) T.q_Arc (fun a D e hn => absurd (by cases e; rfl) hn) ⟨_, rfl, ?_⟩
    rw [if_neg (by simp [Kn.isC])]
    refine ⟨_, rfl, x, _, dx, _, _, rfl, h1, T.c_Arc, T.n_Arc_own_start, (by walk_at "lk"), ?_⟩
    refine ⟨_, rfl, y, dy, _, rfl, k1, y, dy, u', v', rfl, k1, maxPt h2 k2 fun c hc => ?_⟩
    refine ⟨_, rfl, x, _, dx, _, _, rfl, h1, T.c_Arc, T.n_Arc_own_end, (by walk_at "lk"), ?_⟩
    refine ⟨_, rfl, y, dy, _, rfl, k1, y, dy, u', v', rfl, k1, minPt h3 k3 fun d hd => ?_⟩
    refine ⟨_, _, ⟨rfl, rfl⟩, c, d, _, _, rfl, rfl, hc, hd, _, rfl, ?_⟩
    cases e : ptLt (ptMax p p') (ptMin r r') with
    | true =>
      rw [if_pos rfl]
      exact mkArc hc hd (g1.max g3) (g2.min g4) e (fun Q' q' => ⟨_, rfl, _, rfl, q'⟩) fun G z s1 n1 hz => q _ G s1 (.inr ⟨e, z, rfl, hz⟩)
    | false =>
      rw [if_neg (by decide)]
      exact q _ H (Same.refl _) (.inl ⟨e, rfl⟩)

theorem get_ref {as : List Addr} {i : Nat} {y : V} (h : (as.map V.ref)[i]? = some y) : ∃ a, as[i]? = some a ∧ y = .ref a := by
  rw [List.getElem?_map] at h
  cases e : as[i]? with
  | none =>
    rw [e] at h
    cases h
  | some a =>
    rw [e] at h
    cases h
    exact ⟨a, rfl, rfl⟩
theorem pts_at2 {H : Hp} {as : List Addr} {ps : List Pt} (h : PtsAt H as ps) {i : Nat} {p : Pt} (e : ps[i]? = some p) : ∃ a, as[i]? = some a ∧ PtAt H a p := by
  have hi := (List.getElem?_eq_some_iff.mp e).1
  rw [← h.len] at hi
  obtain ⟨p', e', ha⟩ := h.at (List.getElem?_eq_getElem hi)
  rw [e] at e'
  cases e'
  exact ⟨_, List.getElem?_eq_getElem hi, ha⟩
/-- Arc(ms[at], ms[at + 1]) -/
theorem arc_elt {K : Frag} {σ : L2.St} {ta : TA} {G : Hp} {cs : List Addr} {ms : List Pt} {j : Nat} {u v : Pt} {Q : VK} {E : XK} (hM : PtsAt G cs ms) (hg : ∀ s ∈ ms, GP s) (hu : ms[j]? = some u) (hv : ms[j + 1]? = some v) (lt : ptLt u v = true)
    (ht : ∀ a b (Q' : List V → Hp → Prop), atI (cs.map V.ref) (0 + (j : Int)) = some (.ref a) → atI (cs.map V.ref) (0 + (j : Int) + 1) = some (.ref b) → Q' [V.ref a, V.ref b] G → ta σ G Q')
    (q : ∀ G' x, Same G G' → G x = none → ArcG K G' x u v → Q (.ref x) G') : tMake (ga K "Arc") (sp_Arc_init K) [] E ta σ G Q := by
  obtain ⟨a, ea, ha⟩ := pts_at2 hM hu
  obtain ⟨b, eb, hb⟩ := pts_at2 hM hv
  refine mkArc ha hb (hg u (List.mem_of_getElem? hu)) (hg v (List.mem_of_getElem? hv)) lt (fun Q' q' => ht a b Q' ?_ ?_ q') q
  · rw [show (0 : Int) + (j : Int) = ((j : Nat) : Int) by omega]
    exact atI_nat (by rw [List.getElem?_map, ea]; rfl)
  · rw [show (0 : Int) + (j : Int) + 1 = ((j + 1 : Nat) : Int) by omega]
    exact atI_nat (by rw [List.getElem?_map, eb]; rfl)

def sp_split_at (K : Frag) : Sp := fun vs H Q E => ∃ (x l : Addr) (as : List Addr) (ps : List Pt) (p q : Pt), vs = [.ref x, .ref l] ∧ ArcG K H x p q ∧ H l = some (.lst (as.map V.ref)) ∧ PtsAt H as ps ∧ (∀ s ∈ ps, GP s) ∧ ps.length ≤ 1000 ∧
  ∀ H' D xs ms, Same H H' → H D = none → H' D = some (.lst (xs.map V.ref)) → Ends p q ps ms → ArcsAt K H' xs ms → Q (.ref D) H'
theorem sc_split_at : FnScope ["arc", "points", "point", "inside", "marks", "at"] ["arc", "points"] (defScope s_split_at) := ⟨rfl, rfl, rfl, by decide +kernel, rfl, by decide +kernel, by decide +kernel⟩
theorem ok_split_at {P : Program} {w : World} {K : Frag} {mg : Str → Option Value} {base : Heap} (T : Txt K mg) : FnB P w K mg base 7 (glA "split_at" K) (sp_split_at K) := by
  refine okD (N := ["arc", "points", "point", "inside", "marks", "at"]) (ps := ["arc", "points"]) (k := 6) (d := g_split_at) T.d_split_at rfl sc_split_at (fun vs H Q E h => ?_) (fun _ _ _ _ _ _ us hl => match us, hl with | [_, _], _ => rfl) (fun A outer s H vs Q E hr h => ?_)
  · obtain ⟨x, l, as, ps, p, r, rfl, hx, hl, hp, hg, few, q⟩ := h
    rfl
  · have hu := hr.hu
    obtain ⟨x, l, as, ps, p, r, rfl, hx, hl, hp, hg, few, q⟩ := h
    refine ⟨_, (pss_cons (ps_for (passes_of rfl) rfl (pi_list (pv 1)) (pg_name (i := 2) sc_split_at.nd rfl (Or.inl rfl))
        (pss_one (ps_expr (pe_cF (ok_check_point (K := K) T) hr T.m_check_point (passes_call (takes_of rfl rfl rfl rfl) (fun _ _ _ _ h => h)) (pa_cons (pv 2) pa_nil)))))
      (pss_cons (ps_setDcT (i := 3) (own := [("point", 2)]) (g := gName 2) hr.hu rfl sc_split_at.nd rfl rfl (sw_trueD rfl rfl rfl (by decide +kernel)) (pi_list (pv 1)) (blkOk_by (N := ["arc", "points", "point", "inside", "marks", "at"]) (sc := defScope s_split_at) (by decide +kernel)) (fun _ _ _ _ _ => pg_name (i := 2) sc_split_at.nd rfl (Or.inl rfl)) (fun _ _ _ _ _ => (pts_one (pt_chain (op_ltP (hu64 hr)) (op_ltP (hu64 hr)) (pe_prF (pv 0) T.c_Arc T.p_Arc_start (ok_Arc_start (K := K) T) hr passL) (pv 2) (pe_prF (pv 0) T.c_Arc T.p_Arc_end (ok_Arc_end (K := K) T) hr passL)))) (fun _ _ _ _ _ => (pv 2)) (fun _ _ _ _ _ => pe_bl))
      (pss_cons (ps_set (i := 4) sc_split_at.nd rfl (Or.inr rfl) (pe_op op_cat (pe_op op_cat (pe_lst (pa_cons (pe_prF (pv 0) T.c_Arc T.p_Arc_start (ok_Arc_start (K := K) T) hr passL) pa_nil)) (pe_callB (cr_sortDT rfl) (by rfl) T.b_sorted (by decide +kernel) (pa_cons (pv 3) pa_nil))) (pe_lst (pa_cons (pe_prF (pv 0) T.c_Arc T.p_Arc_end (ok_Arc_end (K := K) T) hr passL) pa_nil))))
      (pss_one (ps_ret (pe_lc (own := [("at", 5)]) (g := gName 5) rfl sc_split_at.nd (pi_range1 (by rfl) T.b_range (pa_cons (pe_op op_sub (pe_callB call_len_seq (by rfl) T.b_len (by decide +kernel) (pa_cons (pv 4) pa_nil)) pe_int) pa_nil)) (blkOk_by (N := ["arc", "points", "point", "inside", "marks", "at"]) (sc := defScope s_split_at) (by decide +kernel)) (fun _ _ _ _ _ => pg_name (i := 5) sc_split_at.nd rfl (Or.inl rfl)) (fun _ _ _ _ _ => pts_nil) (fun _ _ _ _ _ => (pe_mkF T.k_Arc (ok_Arc_init (K := K) T) hr T.m_Arc passL (pa_cons (pe_ix (ix_list : IxR _ (rIxL K)) (pv 4) (pv 5) (fun _ _ => rfl)) (pa_cons (pe_ix (ix_list : IxR _ (rIxL K)) (pv 4) (pe_op op_add (pv 5) pe_int) (fun _ _ => rfl)) pa_nil)))))))))), ?_⟩
    walk_at "nm"
    refine ⟨_, rfl, l, rfl, ⟨_, SqL.of hl⟩, for_list (K := K) (a := l) (xs := as.map V.ref) (fun i σ' H' => (∃ w, σ' = [some (.ref x), some (.ref l), w, none, none, none]) ∧ Same H H') ⟨⟨_, rfl⟩, Same.refl _⟩ (fun i σ' H' _ p => SqL.of (p.2 _ _ hl)) ?_ ?_⟩
    · rintro i y σ' H1 hi ⟨⟨w, rfl⟩, s1⟩
      obtain ⟨a, ha, rfl⟩ := get_ref hi
      obtain ⟨s', hs', hat⟩ := hp.at ha
      walk_at "nm"
      exact ⟨_, _, rfl, (hg s' (List.mem_of_getElem? hs')).ptv (hat.same s1), (fun _ H2 s2 => ⟨⟨_, rfl⟩, s1.trans s2⟩), fun z => by cases z⟩
    · rintro σ' H1 ⟨⟨w, rfl⟩, s1⟩
      obtain ⟨⟨dx, u, v, h1, h2, h3⟩, g1, g2, lt⟩ := hx.same s1
      walk_at "nm"
      refine dc_pts (c := fun s => ptLt p s && ptLt s r) (s1 _ _ hl) (hp.tk (.same s1)) few (fun Q' q' => ⟨_, rfl, q'⟩) (fun a s' G Q' hs ha sG q' => ?_) (fun a G Q' q' => ⟨_, rfl, q'⟩) (fun a G Q' q' => q') (fun x => rfl) fun H2 D kvs us s2 nD hD hks hnd hm hlen => ?_
      · have q2 : ∀ c, c = (ptLt p s' && ptLt s' r) → Q' c G := fun c e => by
          rw [e]
          exact q' G (Same.refl _)
        refine ⟨_, rfl, x, dx, _, rfl, sG _ _ h1, x, dx, u, v, rfl, sG _ _ h1, _, rfl, u, a, p, s', rfl, rfl, h2.same sG, ha, _, rfl, ?_⟩
        cases e : ptLt p s' with
        | true =>
          rw [if_pos rfl]
          exact ⟨_, rfl, x, dx, _, rfl, sG _ _ h1, x, dx, u, v, rfl, sG _ _ h1, a, v, s', r, rfl, rfl, ha, h3.same sG, _, rfl, q2 _ (by simp [e])⟩
        | false =>
          rw [if_neg (by decide)]
          exact ⟨_, rfl, q2 _ (by simp [e])⟩
      · refine ⟨_, rfl, x, dx, _, rfl, s2 _ _ h1, x, dx, u, v, rfl, s2 _ _ h1, ?_⟩
        refine ⟨by rw [sizeLine_eq]; first | decide | simp, fun p1 np1 => ?_⟩
        generalize hg : upd _ p1 _ = G1
        have t1 := sameOf np1 hg
        have e1 := atOf hg
        clear hg
        refine ⟨D, kvs, us, rfl, .inl (t1 _ _ hD), hks, fun D2 bs qs nD2 hbs pm ho => ?_⟩
        generalize hgg : upd G1 D2 (.lst (bs.map V.ref)) = G2
        have t2 := sameOf nD2 hgg
        have e2 := atOf hgg
        clear hgg
        have lq : qs.length ≤ 1000 := by
          rw [pm.length_eq]
          omega
        refine ⟨p1, D2, _, _, rfl, rfl, t2 _ _ e1, e2, ?_, ?_⟩
        · rw [List.length_map, hbs.len, sizeLine_eq]
          simp
          omega
        intro p3 np3
        generalize hg : upd _ p3 _ = G3
        have t3 := sameOf np3 hg
        have e3 := atOf hg
        clear hg
        have k3 := s2.trans (t1.trans (t2.trans t3))
        refine ⟨_, rfl, x, dx, _, rfl, k3 _ _ h1, x, dx, u, v, rfl, k3 _ _ h1, ?_⟩
        refine ⟨by rw [sizeLine_eq]; first | decide | simp, fun p4 np4 => ?_⟩
        generalize hg : upd _ p4 _ = G4
        have t4 := sameOf np4 hg
        have e4 := atOf hg
        clear hg
        refine ⟨p3, p4, _, _, rfl, rfl, t4 _ _ e3, e4, ?_, ?_⟩
        · rw [List.length_append, List.length_map, hbs.len, sizeLine_eq]
          simp
          omega
        intro M nM
        generalize hg : upd _ M _ = G5
        have t5 := sameOf nM hg
        have e5 := atOf hg
        clear hg
        have k5 := k3.trans (t4.trans t5)
        have he : Ends p r ps (p :: (qs ++ [r])) := by
          refine ⟨qs, rfl, strict_of ho (pm.nodup_iff.mpr hnd), fun s => ?_⟩
          rw [pm.mem_iff, hm s]
          simp
        have hM : PtsAt G5 (u :: (bs ++ [v])) (p :: (qs ++ [r])) := .cons (h2.same k5) ((hbs.tk (.same (t2.trans (t3.trans (t4.trans t5))))).app (.cons (h3.same k5) .nil))
        have eM : G5 M = some (.lst ((u :: (bs ++ [v])).map V.ref)) := by
          rw [e5]
          simp
        generalize (u :: (bs ++ [v])) = cs at hM eM
        have hml : (p :: (qs ++ [r])).length ≤ 1002 := by
          simp
          omega
        have hm1 : 1 ≤ (p :: (qs ++ [r])).length := by simp
        generalize (p :: (qs ++ [r])) = ms at he hM hml hm1
        have hgm := he.mem g1 g2 hg
        have hcl := hM.len
        refine ⟨_, rfl, M, rfl, _, .inl (SqL.of eM), _, _, rfl, rfl, _, rfl, (by rw [List.length_map]; omega), (by rw [List.length_map]; omega), fun D3 nD3 => ?_⟩
        refine lc_arcs (K := K) (ms := ms) nD3 (by rw [List.length_map]; omega) (by omega) (fun j a b G Q' ha hb sG q' => ?_) (fun x => rfl) fun H9 xs s9 h9 ha9 => q H9 D3 xs ms ((s1.trans k5).trans s9) ((s1.trans k5).free nD3) h9 he ha9
        exact arc_elt (hM.tk (.same sG)) hgm ha hb (he.lt lt ha hb) (fun a b Q2 i1 i2 q2 => ⟨_, rfl, _, rfl, ixL (SqL.of (sG _ _ eM)) i1 ⟨_, rfl, _, rfl, _, _, rfl, rfl, ixL (SqL.of (sG _ _ eM)) i2 q2⟩⟩) q'

def sp_Arc_split (K : Frag) : Sp := fun vs H Q E => ∃ (x t : Addr) (as : List Addr) (ps : List Pt) (p q : Pt), vs = [.ref x, .ref t] ∧ ArcG K H x p q ∧ H t = some (.tup (as.map V.ref)) ∧ PtsAt H as ps ∧ (∀ s ∈ ps, GP s) ∧ ps.length ≤ 1000 ∧
  ∀ H' D xs ms, Same H H' → H D = none → H' D = some (.lst (xs.map V.ref)) → Ends p q ps ms → ArcsAt K H' xs ms → Q (.ref D) H'
theorem sc_Arc_split : FnScope ["self", "points"] ["self", "points"] (defScope s_Arc_split) := ⟨rfl, rfl, rfl, by decide +kernel, rfl, by decide +kernel, by decide +kernel⟩
theorem bd_Arc_split (kV doc pm : Value) (an : Option Addr) (cdv ct : Value) (us rs : List Value) (hl : us.length = 1) : bindArgs (PySem.W.fnOf g_Arc_split.name g_Arc_split.qual g_Arc_split.params g_Arc_split.body g_Arc_split.scope .none kV doc pm an cdv ct) ⟨us ++ rs, []⟩ = (newTuple rs >>= fun t => pure (((["self"] : List Str) ++ (["points"] : List Str)).zip (us ++ [t]))) := by
  match us, hl with
  | [_], _ =>
    cases rs <;> rfl
theorem ok_Arc_split {P : Program} {w : World} {K : Frag} {mg : Str → Option Value} {base : Heap} (T : Txt K mg) : FnV P w K mg base 8 (mtA "Arc" "split" K) 1 (sp_Arc_split K) := by
  refine okV (N := ["self", "points"]) (ps := ["self"]) (x := "points") (k := 7) (d := g_Arc_split) T.d_Arc_split rfl sc_Arc_split (fun vs H Q E h => ?_) (fun kV doc pm an cdv ct us rs hl => bd_Arc_split kV doc pm an cdv ct us rs hl) (fun A outer s H vs Q E hr h => ?_)
  · obtain ⟨x, t, as, ps, p, r, rfl, hx, ht, hp, hg, few, q⟩ := h
    rfl
  · have hu := hr.hu
    obtain ⟨x, t, as, ps, p, r, rfl, hx, ht, hp, hg, few, q⟩ := h
    refine ⟨_, (pss_one (ps_ret (pe_cF (ok_split_at (K := K) T) hr T.m_split_at (passes_call (takes_of rfl rfl rfl rfl) (fun _ _ _ _ h => h)) (pa_cons (pv 0) (pa_cons (pe_callTy call_list_of (by rfl) T.b_list (by decide +kernel) (pa_cons (pv 1) pa_nil)) pa_nil))))), ?_⟩
    walk_at "nm"
    refine ⟨as.map V.ref, .inr (SqT.of ht), ?_⟩
    intro l nl
    generalize hg : upd _ l _ = G1
    have s1 := sameOf nl hg
    have h1 := atOf hg
    clear hg
    exact ⟨x, l, as, ps, p, r, rfl, hx.same s1, h1, hp.tk (.same s1), hg, few, fun H' D xs ms s n h e a => q H' D xs ms (s1.trans s) (s1.free n) h e a⟩

theorem ArcG.ins {K : Frag} {H : Hp} {x : Addr} {p q : Pt} (h : ArcG K H x p q) : ∃ dx fs, H x = some (.ins (ga K "Arc") dx fs) := by
  obtain ⟨⟨dx, a, b, h1, h2, h3⟩, g1, g2, lt⟩ := h
  exact ⟨dx, _, h1⟩
/-- arcs lie at these addresses -/
inductive ArcsIn (K : Frag) (H : Hp) : List Addr → List (Pt × Pt) → Prop
  | nil : ArcsIn K H [] []
  | cons {x : Addr} {a : Pt × Pt} {xs : List Addr} {ar : List (Pt × Pt)} (h : ArcG K H x a.1 a.2) (t : ArcsIn K H xs ar) : ArcsIn K H (x :: xs) (a :: ar)
section
variable {K : Frag} {H H' : Hp} {xs ys : List Addr} {ar br : List (Pt × Pt)}
theorem ArcsIn.same (h : ArcsIn K H xs ar) (s : Same H H') : ArcsIn K H' xs ar := by
  induction h with
  | nil => exact .nil
  | cons h _ ih => exact .cons (h.same s) ih
theorem ArcsIn.len (h : ArcsIn K H xs ar) : xs.length = ar.length := by
  induction h with
  | nil => rfl
  | cons _ _ ih => simp [ih]
theorem ArcsIn.app (h : ArcsIn K H xs ar) (g : ArcsIn K H ys br) : ArcsIn K H (xs ++ ys) (ar ++ br) := by
  induction h with
  | nil => exact g
  | cons h _ ih => exact .cons h ih
theorem ArcsIn.at (h : ArcsIn K H xs ar) {i : Nat} {x : Addr} (e : xs[i]? = some x) : ∃ a, ar[i]? = some a ∧ ArcG K H x a.1 a.2 := by
  induction h generalizing i with
  | nil => simp at e
  | cons h _ ih =>
    cases i with
    | zero =>
      simp at e
      subst e
      exact ⟨_, rfl, h⟩
    | succ i => exact ih (by simpa using e)
theorem ArcsIn.rev (h : ArcsIn K H xs ar) : ArcsIn K H xs.reverse ar.reverse := by
  induction h with
  | nil => exact .nil
  | cons h _ ih =>
    rw [List.reverse_cons, List.reverse_cons]
    exact ih.app (.cons h .nil)
theorem ArcsIn.take (h : ArcsIn K H xs ar) (n : Nat) : ArcsIn K H (xs.take n) (ar.take n) := by
  induction h generalizing n with
  | nil => simpa using ArcsIn.nil
  | cons h _ ih =>
    cases n with
    | zero => exact .nil
    | succ n => exact .cons h (ih n)
theorem ArcsIn.drop (h : ArcsIn K H xs ar) (n : Nat) : ArcsIn K H (xs.drop n) (ar.drop n) := by
  induction h generalizing n with
  | nil => simpa using ArcsIn.nil
  | cons h t ih =>
    cases n with
    | zero => exact .cons h t
    | succ n => exact ih n
/-- neighbours -/
def pairs : List Pt → List (Pt × Pt)
  | a :: b :: r => (a, b) :: pairs (b :: r)
  | _ => []
theorem pairs_len : ∀ ms : List Pt, (pairs ms).length = ms.length - 1
  | [] => rfl
  | [a] => rfl
  | a :: b :: r => by
    have := pairs_len (b :: r)
    simp only [pairs, List.length_cons] at this ⊢
    omega
theorem pairs_at : ∀ {ms : List Pt} {i : Nat} {u v : Pt}, ms[i]? = some u → ms[i + 1]? = some v → (pairs ms)[i]? = some (u, v)
  | [], i, u, v, h, _ => by simp at h
  | [a], i, u, v, _, h => by simp at h
  | a :: b :: r, 0, u, v, h, g => by
    simp at h g
    subst h g
    rfl
  | a :: b :: r, i + 1, u, v, h, g => by
    show (pairs (b :: r))[i]? = _
    exact pairs_at (by simpa using h) (by simpa using g)
theorem ArcsIn.of_each : ∀ {xs : List Addr} {ar : List (Pt × Pt)}, xs.length = ar.length → (∀ (i : Nat) x a, xs[i]? = some x → ar[i]? = some a → ArcG K H x a.1 a.2) → ArcsIn K H xs ar
  | [], [], _, _ => .nil
  | x :: xs, a :: ar, hl, h => .cons (h 0 x a rfl rfl) (ArcsIn.of_each (by simpa using hl) fun i x a h1 h2 => h (i + 1) x a (by simpa using h1) (by simpa using h2))
theorem ArcsAt.arcsIn {ms : List Pt} (h : ArcsAt K H xs ms) : ArcsIn K H xs (pairs ms) := by
  have hl := h.len
  refine .of_each (by rw [pairs_len]; omega) fun i x a h1 h2 => ?_
  have hi := (List.getElem?_eq_some_iff.mp h1).1
  have e1 : ms[i]? = some ms[i] := List.getElem?_eq_getElem (by omega)
  have e2 : ms[i + 1]? = some ms[i + 1] := List.getElem?_eq_getElem (by omega)
  rw [pairs_at e1 e2] at h2
  cases h2
  exact h.arc i x _ _ h1 e1 e2
end
theorem _root_.Ah.PoolAt.pt_ne {H : Hp} {a u : Addr} {p : Pt} (h : PoolAt H a) (k : PtAt H u p) : u ≠ a := by
  obtain ⟨i, j, e⟩ := h
  exact ne_of k e (fun z => by cases z)
theorem pts_ex {H H' : Hp} {pl : Addr} (hp : PoolAt H pl) (x : Ex pl H H') {as : List Addr} {ps : List Pt} (h : PtsAt H as ps) : PtsAt H' as ps := by
  induction h with
  | nil => exact .nil
  | cons h _ ih => exact .cons (x _ _ (hp.pt_ne h) h) ih
theorem arc_ex {K : Frag} {H H' : Hp} {pl y : Addr} {p q : Pt} (hp : PoolAt H pl) (x : Ex pl H H') (h : ArcG K H y p q) : ArcG K H' y p q := by
  obtain ⟨⟨dx, a, b, h1, h2, h3⟩, g1, g2, lt⟩ := h
  obtain ⟨i, j, e⟩ := id hp
  exact ⟨⟨dx, a, b, x _ _ (ne_of h1 e (fun z => by cases z)) h1, x _ _ (hp.pt_ne h2) h2, x _ _ (hp.pt_ne h3) h3⟩, g1, g2, lt⟩
theorem arcs_ex {K : Frag} {H H' : Hp} {pl : Addr} (hp : PoolAt H pl) (x : Ex pl H H') {xs : List Addr} {ar : List (Pt × Pt)} (h : ArcsIn K H xs ar) : ArcsIn K H' xs ar := by
  induction h with
  | nil => exact .nil
  | cons h _ ih => exact .cons (arc_ex hp x h) ih
/-- a list of new points -/
theorem lc_pts {K : Frag} {tl te : TE} {σ : L2.St} {i : Nat} {H : Hp} {xs : List V} {ps : List Pt} {Q : VK} (hlen : ps.length = xs.length) (few : xs.length ≤ 10000)
    (hl : ∀ Q' : VK, (∀ G L, Same H G → G L = some (.lst xs) → Q' (.ref L) G) → tl σ H Q')
    (he : ∀ (n : Nat) x p G Q', xs[n]? = some x → ps[n]? = some p → Same H G → (∀ a G', Same G G' → PtAt G' a p → Q' (.ref a) G') → te ((wipe σ [i]).set i (some x)) G Q')
    (hw : ∀ x, wipe ((wipe σ [i]).set i (some x)) [i] = wipe σ [i])
    (q : ∀ H' D as, Same H H' → H D = none → H' D = some (.lst (as.map V.ref)) → PtsAt H' as ps → Q (.ref D) H') : tLc (iList K tl) (gName i) tYes te [i] σ H Q := by
  refine hl _ fun G L s hL => ⟨L, rfl, ⟨_, SqL.of hL⟩, fun D hD => ?_⟩
  refine lc_it (walk_list (xs := xs)) (fun j H2 => (∃ as, H2 D = some (.lst (as.map V.ref)) ∧ PtsAt H2 as (ps.take j)) ∧ Same G H2) ?_ (fun j H2 _ h => SqL.of (h.2 _ _ hL)) ?_ ?_
  · exact ⟨⟨[], upd_same, by simpa using PtsAt.nil⟩, Same.upd (Same.refl _) hD⟩
  · rintro j y H2 H3 hj ⟨⟨as, hb, hp⟩, s2⟩ ⟨rfl, hy⟩
    have hj' : j < ps.length := by omega
    refine ⟨hw _, ?_⟩
    dsimp only [tYes]
    rw [if_pos rfl]
    refine he j y ps[j] H3 _ hy (List.getElem?_eq_getElem hj') (s.trans s2) fun a G' sG ha => ?_
    have lp := hp.len
    rw [List.length_take] at lp
    have tk : Tk G' (upd G' D (.lst (as.map V.ref ++ [.ref a]))) := Tk.upd (sG _ _ hb) (fun xs z => by cases z)
    refine ⟨_, sG _ _ hb, by rw [List.length_map, sizeLine_eq]; omega, ⟨as ++ [a], ?_, ?_⟩, fun b o hbo => ?_⟩
    · rw [upd_same, List.map_append]
      rfl
    · rw [List.take_add_one, List.getElem?_eq_getElem hj']
      exact (hp.tk ((Tk.same sG).trans tk)).app (.cons (tk _ _ ha) .nil)
    · rw [upd_ne (ne_of_none hbo hD)]
      exact (s2.trans sG) _ _ hbo
  · rintro H2 ⟨⟨as, hb, hp⟩, s2⟩
    rw [← hlen, List.take_length] at hp
    exact q H2 D as (s.trans s2) (s.free hD) hb hp
/-- the points of the law's small line -/
def txts : List Str := [Str.ofString "", Str.ofString "a", Str.ofString "a!", Str.ofString "b", Str.ofString "b!"]
def ptsTo (m : Nat) : List Pt := (List.range m).flatMap fun (n : Nat) => txts.map fun t => (((n : Nat) : Int), t)
abbrev PTS : List Pt := ptsTo 5
theorem ptsTo_succ (m : Nat) : ptsTo (m + 1) = ptsTo m ++ txts.map fun t => (((m : Nat) : Int), t) := by
  unfold ptsTo
  rw [List.range_succ, List.flatMap_append]
  simp
theorem ptsTo_len (m : Nat) : (ptsTo m).length = 5 * m := by
  induction m with
  | zero => rfl
  | succ m ih =>
    rw [ptsTo_succ, List.length_append, List.length_map, ih]
    show 5 * m + 5 = _
    omega

def sp_check_arcs (K : Frag) : Sp := fun vs H Q _ => ∃ (l : Addr) (xs : List Addr) (ar : List (Pt × Pt)), vs = [.ref l] ∧ H l = some (.lst (xs.map V.ref)) ∧ ArcsIn K H xs ar ∧ ∀ H', Same H H' → Q .non H'
theorem sc_check_arcs : FnScope ["value", "position", "arc"] ["value"] (defScope s_check_arcs) := ⟨rfl, rfl, rfl, by decide +kernel, rfl, by decide +kernel, by decide +kernel⟩
theorem ok_check_arcs {P : Program} {w : World} {K : Frag} {mg : Str → Option Value} {base : Heap} (T : Txt K mg) : FnB P w K mg base 3 (glA "check_arcs" K) (sp_check_arcs K) := by
  refine okD (N := ["value", "position", "arc"]) (ps := ["value"]) (k := 2) (d := g_check_arcs) T.d_check_arcs rfl sc_check_arcs (fun vs H Q E h => ?_) (fun _ _ _ _ _ _ us hl => match us, hl with | [_], _ => rfl) (fun A outer s H vs Q E hr h => ?_)
  · obtain ⟨l, xs, ar, rfl, e, ha, q⟩ := h
    rfl
  · have hu := hr.hu
    obtain ⟨l, xs, ar, rfl, e, ha, q⟩ := h
    refine ⟨_, (pss_cons (ps_if (pt_not (pt_val (pe_callB call_isi (by rfl) T.b_isinstance (by decide +kernel) (pa_cons (pv 0) (pa_cons (pe_bltn (v := .ty "list") (u := .type "list") (by rfl) T.b_list (by decide +kernel) rfl) pa_nil)))))
        (pss_one (ps_raiseC rfl (takes_of rfl rfl rfl rfl) T.r_InvalidArcs (ok_InvalidArcs_init (K := K) T) hr (pa_cons pe_non pa_nil)))
        pss_nil)
      (pss_one (ps_for (passes_of rfl) rfl (pi_enum (by rfl) T.b_enumerate (pa_cons (pv 0) pa_nil)) (pg_tup (n := 2) (by rfl) (pgs_cons (pg_name (i := 1) sc_check_arcs.nd rfl (Or.inl rfl)) (pgs_cons (pg_name (i := 2) sc_check_arcs.nd rfl (Or.inl rfl)) pgs_nil)))
        (pss_one (ps_if (pt_not (pt_val (pe_callB call_isi (by rfl) T.b_isinstance (by decide +kernel) (pa_cons (pv 2) (pa_cons (pe_gc (v := .ref (ga K "Arc")) (by rfl) ⟨_, T.m_Arc, rfl⟩) pa_nil)))))
          (pss_one (ps_raiseC rfl (takes_of rfl rfl rfl rfl) T.r_InvalidArcs (ok_InvalidArcs_init (K := K) T) hr (pa_cons (pv 1) pa_nil)))
          pss_nil))))), ?_⟩
    walk_at "nm"
    refine isi "list" (.lst e) ⟨_, rfl, ?_⟩
    rw [if_neg (show ¬ (Kn.lst l (xs.map V.ref)).isT "list" = false from fun z => by cases z)]
    refine ⟨_, rfl, l, _, rfl, SqL.of e, for_it walk_enum (fun i σ' H' => (∃ w w', σ' = [some (.ref l), w, w']) ∧ Same H H') ⟨⟨_, _, rfl⟩, Same.refl _⟩ (fun i σ' H' _ p => SqL.of (p.2 _ _ e)) ?_ ?_⟩
    · rintro i y σ' H1 H2 hi ⟨⟨w, w', rfl⟩, s1⟩ ⟨tt, y1, y2, rfl, ht, rfl, e1, e2⟩
      cases e1
      have s2 := Same.upd (o := .tup [.int (i : Nat), y2]) s1 ht
      refine ⟨tt, _, rfl, SqT.of upd_same, rfl, _, _, rfl, _, _, rfl, rfl, ?_⟩
      generalize upd H1 tt (.tup [.int (i : Nat), y2]) = H2 at s2 ⊢
      walk_at "nm"
      obtain ⟨x, ex, rfl⟩ := get_ref (show (xs.map V.ref)[i]? = some y2 from e2)
      obtain ⟨a, ea, hx⟩ := ha.at ex
      obtain ⟨dx, fs, hi⟩ := (hx.same s2).ins
      refine isiC (.ins hi T.o_Arc) T.q_Arc (fun a D e hn => absurd (by cases e; rfl) hn) ⟨_, rfl, ?_⟩
      rw [if_neg (by simp [Kn.isC])]
      exact ⟨⟨_, rfl⟩, s2⟩
    · rintro σ' H1 ⟨_, s1⟩
      exact q H1 s1

/-- how many of the arcs hold a point -/
def cnt (ar : List (Pt × Pt)) (s : Pt) : Nat := (ar.map fun a => inArc a.1 a.2 s).count true
/-- what is wrong at a point -/
def faultAt (p q : Pt) (ar : List (Pt × Pt)) (s : Pt) : Option Str := if cnt ar s > 1 then some (Str.ofString "overlap") else if (decide (cnt ar s = 1) != inArc p q s) = true then some (if cnt ar s = 1 then Str.ofString "outside" else Str.ofString "gap") else none
def firstFault (f : Pt → Option Str) : List Pt → Option (Str × Pt)
  | [] => none
  | s :: r => match f s with
    | some w => some (w, s)
    | none => firstFault f r
/-- a value that tells a fault -/
def FaultV (H : Hp) (v : V) : Option (Str × Pt) → Prop
  | none => v = .non
  | some (w, s) => ∃ r a : Addr, v = .ref r ∧ H r = some (.tup [.str w, .ref a]) ∧ PtAt H a s ∧ GP s
theorem ff_drop {f : Pt → Option Str} {qs : List Pt} {j : Nat} {s : Pt} (h : qs[j]? = some s) : firstFault f (qs.drop j) = match f s with
    | some w => some (w, s)
    | none => firstFault f (qs.drop (j + 1)) := by
  obtain ⟨hj, e⟩ := List.getElem?_eq_some_iff.mp h
  rw [List.drop_eq_getElem_cons hj, e]
  rfl
def sp_tiling_fault (K : Frag) : Sp := fun vs H Q _ => ∃ (x l : Addr) (xs : List Addr) (p q : Pt) (ar : List (Pt × Pt)), vs = [.ref x, .ref l] ∧ ArcG K H x p q ∧ H l = some (.lst (xs.map V.ref)) ∧ ArcsIn K H xs ar ∧ ar.length ≤ 1000 ∧
  ∀ v H' qs, Same H H' → qs.Pairwise (fun a b => ptLt a b = true) → (∀ s, s ∈ qs ↔ s ∈ ((p, q) :: ar).flatMap fun e => [e.1, e.2]) → FaultV H' v (firstFault (faultAt p q ar) qs) → Q v H'
theorem in_arc {K : Frag} {H : Hp} {x a : Addr} {p q s : Pt} {Q : VK} (hx : ArcG K H x p q) (g : GP s) (ha : PtAt H a s) (k : ∀ H', Same H H' → Q (.bl (inArc p q s)) H') : rInO (ga K "Arc") (sp_Arc_contains K) E0 (.ref a) (.ref x) H Q := by
  obtain ⟨dx, fs, e⟩ := hx.ins
  exact ⟨x, dx, fs, rfl, e, x, .ref a, true, p, q, rfl, hx.at_, g.ptv ha, .inr ⟨a, s, rfl, rfl, ha, fun G' sG' => ⟨_, rfl, k G' sG'⟩⟩⟩
theorem sc_tiling_fault : FnScope ["arc", "arcs", "marks", "point", "number", "one"] ["arc", "arcs"] (defScope s_tiling_fault) := ⟨rfl, rfl, rfl, by decide +kernel, rfl, by decide +kernel, by decide +kernel⟩
theorem ok_tiling_fault {P : Program} {w : World} {K : Frag} {mg : Str → Option Value} {base : Heap} (T : Txt K mg) : FnB P w K mg base 5 (glA "tiling_fault" K) (sp_tiling_fault K) := by
  refine okD (N := ["arc", "arcs", "marks", "point", "number", "one"]) (ps := ["arc", "arcs"]) (k := 4) (d := g_tiling_fault) T.d_tiling_fault rfl sc_tiling_fault (fun vs H Q E h => ?_) (fun _ _ _ _ _ _ us hl => match us, hl with | [_, _], _ => rfl) (fun A outer s H vs Q E hr h => ?_)
  · obtain ⟨x, l, xs, p, r, ar, rfl, hx, hl, ha, few, q⟩ := h
    rfl
  · have hu := hr.hu
    obtain ⟨x, l, xs, p, r, ar, rfl, hx, hl, ha, few, q⟩ := h
    refine ⟨_, (pss_cons (ps_expr (pe_cF (ok_check_arc (K := K) T) hr T.m_check_arc (passes_call (takes_of rfl rfl rfl rfl) (fun _ _ _ _ h => h)) (pa_cons (pv 0) pa_nil)))
      (pss_cons (ps_expr (pe_cF (ok_check_arcs (K := K) T) hr T.m_check_arcs (passes_call (takes_of rfl rfl rfl rfl) (fun _ _ _ _ h => h)) (pa_cons (pv 1) pa_nil)))
      (pss_cons (ps_setDc2 (i := 2) (own := [("one", 5), ("point", 3)]) (vs1 := [3]) (g := gName 5) (g1 := gName 3) hr.hu rfl sc_tiling_fault.nd rfl rfl (sw_trueD rfl rfl rfl (by decide +kernel)) (pi_list (pe_op op_cat (pe_lst (pa_cons (pv 0) pa_nil)) (pv 1))) (blkOk_by (N := ["arc", "arcs", "marks", "point", "number", "one"]) (sc := defScope s_tiling_fault) (by decide +kernel)) (by decide) (fun _ _ _ _ _ => pg_name (i := 5) sc_tiling_fault.nd rfl (Or.inl rfl)) (fun _ _ _ _ _ => pts_nil) (fun _ _ _ _ _ => (pi_tup (pe_tup (pa_cons (pe_prF (pv 5) T.c_Arc T.p_Arc_start (ok_Arc_start (K := K) T) hr passL) (pa_cons (pe_prF (pv 5) T.c_Arc T.p_Arc_end (ok_Arc_end (K := K) T) hr passL) pa_nil))) : PI _ _ _ (iTup K _))) (fun _ _ _ _ _ => pg_name (i := 3) sc_tiling_fault.nd rfl (Or.inl rfl)) (fun _ _ _ _ _ => pts_nil) (fun _ _ _ _ _ => (pv 3)) (fun _ _ _ _ _ => pe_bl))
      (pss_cons (ps_for (passes_of rfl) rfl (pi_list (pe_callB (cr_sortDT rfl) (by rfl) T.b_sorted (by decide +kernel) (pa_cons (pv 2) pa_nil))) (pg_name (i := 3) sc_tiling_fault.nd rfl (Or.inr rfl))
        (pss_cons (ps_set (i := 4) sc_tiling_fault.nd rfl (Or.inl rfl) (pe_callB call_len_seq (by rfl) T.b_len (by decide +kernel) (pa_cons (pe_lc (own := [("one", 5)]) (g := gName 5) rfl sc_tiling_fault.nd (pi_list (pv 1)) (blkOk_by (N := ["arc", "arcs", "marks", "point", "number", "one"]) (sc := defScope s_tiling_fault) (by decide +kernel)) (fun _ _ _ _ _ => pg_name (i := 5) sc_tiling_fault.nd rfl (Or.inl rfl)) (fun _ _ _ _ _ => (pts_one (pt_cmpR (op_inO T.e_Arc_contains (ok_Arc_contains (K := K) T) hr passL) (pv 3) (pv 5) (by rfl)))) (fun _ _ _ _ _ => (pv 5))) pa_nil)))
        (pss_cons (ps_if (pt_cmpR op_gt (pv 4) pe_int (nomark _))
          (pss_one (ps_ret (pe_tup (pa_cons pe_str (pa_cons (pv 3) pa_nil)))))
          pss_nil)
        (pss_one (ps_if (pt_cmpR op_ne (pe_cmpR op_eq (pv 4) pe_int (nomark _)) (pe_cmpR (op_inO T.e_Arc_contains (ok_Arc_contains (K := K) T) hr passL) (pv 3) (pv 0) (by rfl)) (nomark _))
          (pss_one (ps_ret (pe_tup (pa_cons (pe_ifExp (pt_cmpR op_eq (pv 4) pe_int (nomark _)) pe_str pe_str) (pa_cons (pv 3) pa_nil)))))
          pss_nil)))))
      (pss_one (ps_ret pe_non)))))), ?_⟩
    obtain ⟨dx, fx, ex⟩ := hx.ins
    walk_at "nm"
    refine ⟨_, _, rfl, .ins ex T.o_Arc, (fun a D e => by cases e; rfl), (fun _ => ?_), fun z => absurd z (by simp [Kn.isC])⟩
    refine ⟨l, xs, ar, rfl, hl, ha, fun H1 s1 => ?_⟩
    show tDc2 _ _ _ _ _ _ _ _ _ _ _ _ _
    have hlx := ha.len
    refine dc2_ptsM (xs := V.ref x :: xs.map V.ref) (es := (p, r) :: ar) (w := .bl true) (by simp [hlx]) (by simp; omega) (fun Q' q' => ?_) (fun n y e G Q' hy he sG q' => ?_) (fun y a G Q' q' => ⟨_, rfl, q'⟩) (fun y a G Q' q' => q') (fun y => rfl) (fun y z => rfl) fun H2 D kvs us s2 nD hD hks hnd hm hlen => ?_
    · walk_at "nm"
      refine ⟨by rw [sizeLine_eq]; first | decide | simp, fun p1 np1 => ?_⟩
      generalize hg : upd _ p1 _ = G1
      have t1 := sameOf np1 hg
      have e1 := atOf hg
      clear hg
      refine ⟨p1, l, _, _, rfl, rfl, e1, t1 _ _ (s1 _ _ hl), ?_, ?_⟩
      · rw [List.length_map, sizeLine_eq]
        simp
        omega
      intro p2 np2
      generalize hg : upd _ p2 _ = G2
      have t2 := sameOf np2 hg
      have e2 := atOf hg
      clear hg
      exact q' G2 p2 (t1.trans t2) e2
    · walk_at "nm"
      have key : ∃ y', y = .ref y' ∧ ArcG K G y' e.1 e.2 := by
        cases n with
        | zero =>
          simp at hy he
          subst hy he
          exact ⟨x, rfl, hx.same (s1.trans sG)⟩
        | succ n =>
          simp only [List.getElem?_cons_succ] at hy he
          obtain ⟨y', hy', rfl⟩ := get_ref hy
          obtain ⟨a, ea, hg⟩ := ha.at hy'
          rw [he] at ea
          cases ea
          exact ⟨y', rfl, hg.same (s1.trans sG)⟩
      obtain ⟨y', rfl, ⟨dy, u, v, h1, h2, h3⟩, g1, g2, lt⟩ := key
      refine ⟨_, rfl, y', dy, _, rfl, h1, y', dy, u, v, rfl, h1, ?_⟩
      refine ⟨_, rfl, y', dy, _, rfl, h1, y', dy, u, v, rfl, h1, ?_⟩
      refine ⟨by rw [sizeLine_eq]; first | decide | simp, fun p1 np1 => ?_⟩
      generalize hg : upd _ p1 _ = G1
      have t1 := sameOf np1 hg
      have e1 := atOf hg
      clear hg
      exact q' p1 u v G1 t1 np1 e1 (h2.same t1) (h3.same t1)
    have k2 := s1.trans s2
    refine ⟨_, rfl, D, kvs, us, rfl, .inl hD, hks, fun D2 bs qs nD2 hbs pm ho => ?_⟩
    generalize hgg : upd H2 D2 (.lst (bs.map V.ref)) = G0
    have t0 := sameOf nD2 hgg
    have e0 := atOf hgg
    clear hgg
    have k0 := k2.trans t0
    have hst : qs.Pairwise (fun a b => ptLt a b = true) := strict_of ho (pm.nodup_iff.mpr hnd)
    have hmq : ∀ s, s ∈ qs ↔ s ∈ ((p, r) :: ar).flatMap fun e => [e.1, e.2] := fun s => by rw [pm.mem_iff, hm s]
    have hgq : ∀ s ∈ qs, GP s := fun s hs => by
      obtain ⟨e, he, hse⟩ := List.mem_flatMap.mp ((hmq s).mp hs)
      have ge : GP e.1 ∧ GP e.2 := by
        rcases List.mem_cons.mp he with rfl | he
        · exact ⟨hx.g1, hx.g2⟩
        · obtain ⟨n, hn⟩ := List.getElem?_of_mem he
          have hi := (List.getElem?_eq_some_iff.mp hn).1
          obtain ⟨a, ea, hg⟩ := ha.at (List.getElem?_eq_getElem (by omega : n < xs.length))
          rw [hn] at ea
          cases ea
          exact ⟨hg.g1, hg.g2⟩
      simp only [List.mem_cons, List.not_mem_nil, or_false] at hse
      rcases hse with rfl | rfl
      · exact ge.1
      · exact ge.2
    have hb0 := hbs.tk (.same t0)
    have lb := hb0.len
    refine ⟨D2, rfl, ⟨_, SqL.of e0⟩, for_list (K := K) (a := D2) (xs := bs.map V.ref) (fun j σ' H' => (∃ w1 w2 w3, σ' = [some (.ref x), some (.ref l), some (.ref D), w1, w2, w3]) ∧ Same G0 H' ∧ firstFault (faultAt p r ar) qs = firstFault (faultAt p r ar) (qs.drop j)) ⟨⟨_, _, _, rfl⟩, Same.refl _, by rw [List.drop_zero]⟩ (fun j σ' H' _ p => SqL.of (p.2.1 _ _ e0)) ?_ ?_⟩
    · rintro j y σ' H3 hj ⟨⟨w1, w2, w3, rfl⟩, s3, hff⟩
      obtain ⟨a, haj, rfl⟩ := get_ref hj
      obtain ⟨s', hs', hat⟩ := hb0.at haj
      have gs := hgq s' (List.mem_of_getElem? hs')
      have k3 := k0.trans s3
      have hl3 := k3 _ _ hl
      have ha3 := ha.same k3
      walk_at "nm"
      refine lc_count (cs := ar.map fun a => inArc a.1 a.2 s') hl3 (by simp [hlx]) (by rw [List.length_map]; omega) (fun Q' q' => ⟨_, rfl, q'⟩) (fun n y b G Q' hy hb sG q' => ?_) (fun y G Q' q' => ⟨_, rfl, q'⟩) (fun y => rfl) fun H4 D4 ys s4 nD4 hD4 hlen4 => ?_
      · obtain ⟨y', hy', rfl⟩ := get_ref hy
        obtain ⟨e, ee, hg⟩ := (ha3.same sG).at hy'
        rw [List.getElem?_map, ee] at hb
        cases hb
        exact ⟨_, rfl, _, rfl, in_arc hg gs (hat.same (s3.trans sG)) fun G' sG' => ⟨_, rfl, q' G' sG'⟩⟩
      have hy4 : ys.length = cnt ar s' := hlen4
      have k4 := s3.trans s4
      refine ⟨D4, rfl, ys, .inl (SqL.of hD4), ?_⟩
      rw [hy4]
      have out : ∀ (w : Str) G, faultAt p r ar s' = some w → Same G0 G → ∀ t, G t = none → Q (.ref t) (upd G t (.tup [.str w, .ref a])) := fun w G ef sG t nt => by
        have s9 := Same.upd (o := .tup [.str w, .ref a]) sG nt
        refine q _ _ qs (k0.trans s9) hst hmq ?_
        rw [hff, ff_drop hs', ef]
        exact ⟨t, a, rfl, upd_same, hat.same s9, gs⟩
      have ec : decide (V.int (cnt ar s' : Nat) = V.int 1) = decide (cnt ar s' = 1) := decide_eq_decide.mpr ⟨fun z => by injection z with z; omega, fun z => by rw [z]; rfl⟩
      by_cases c1 : 1 < ((cnt ar s' : Nat) : Int)
      · rw [if_pos c1]
        exact ⟨by rw [sizeLine_eq]; decide, out _ H4 (by unfold faultAt; rw [if_pos (by omega)]) k4⟩
      rw [if_neg c1]
      refine ⟨rfl, in_arc (hx.same (k0.trans k4)) gs (hat.same k4) fun H5 s5 => ⟨rfl, _, rfl, ?_⟩⟩
      have k5 := k4.trans s5
      rw [ec]
      have ed : (!decide (V.bl (decide (cnt ar s' = 1)) = V.bl (inArc p r s'))) = (decide (cnt ar s' = 1) != inArc p r s') := by
        cases decide (cnt ar s' = 1) <;> cases inArc p r s' <;> rfl
      rw [ed]
      by_cases c2 : (decide (cnt ar s' = 1) != inArc p r s') = true
      · rw [if_pos c2]
        refine ⟨rfl, _, rfl, ?_⟩
        rw [ec]
        have ef : faultAt p r ar s' = some (if cnt ar s' = 1 then Str.ofString "outside" else Str.ofString "gap") := by
          unfold faultAt
          rw [if_neg (by omega), if_pos c2]
        by_cases c3 : cnt ar s' = 1
        · rw [if_pos (decide_eq_true c3)]
          rw [if_pos c3] at ef
          exact ⟨by rw [sizeLine_eq]; decide, out _ H5 ef k5⟩
        · rw [if_neg (fun z => c3 (of_decide_eq_true z))]
          rw [if_neg c3] at ef
          exact ⟨by rw [sizeLine_eq]; decide, out _ H5 ef k5⟩
      · rw [if_neg c2]
        refine ⟨⟨_, rfl⟩, k5, ?_⟩
        rw [hff, ff_drop hs']
        have ef : faultAt p r ar s' = none := by
          unfold faultAt
          rw [if_neg (by omega), if_neg c2]
        rw [ef]
    · rintro σ' H3 ⟨⟨w1, w2, w3, rfl⟩, s3, hff⟩
      rw [List.length_map, lb, List.drop_length] at hff
      refine q .non H3 qs (k0.trans s3) hst hmq ?_
      rw [hff]
      rfl

/-- one.start <= point < one.end -/
theorem ch_open {K : Frag} {H : Hp} {x a : Addr} {p q s : Pt} {σ : L2.St} {ta : TE} {F : Bool → Hp → Prop} {F0 : Hp → Prop} (hx : ArcG K H x p q) (ha : PtAt H a s) (h1 : ∀ Q' : VK, Q' (.ref x) H → ta σ H Q') (k : F (inArc p q s) H) (k0 : inArc p q s = false → F0 H) :
    tProp (ga K "Arc") (sp_Arc_start K) [] E0 ta σ H fun v H1 => rPt (fun p q => !ptLt q p) v (.ref a) H1 fun z H3 => ∃ k, z = .bl k ∧ if k = true then tProp (ga K "Arc") (sp_Arc_end K) [] E0 ta σ H3 fun w' H4 => rPt ptLt (.ref a) w' H4 fun x H' => ∃ k, x = .bl k ∧ F k H' else F0 H3 := by
  obtain ⟨⟨dx, u, v, e1, e2, e3⟩, g1, g2, lt⟩ := hx
  refine h1 _ ⟨x, dx, _, rfl, e1, x, dx, u, v, rfl, e1, u, a, p, s, rfl, rfl, e2, ha, _, rfl, ?_⟩
  by_cases e : ptLt s p = true
  · rw [if_neg (by simp [e])]
    exact k0 (by simp [inArc, e])
  · rw [if_pos (by simp [e])]
    refine h1 _ ⟨x, dx, _, rfl, e1, x, dx, u, v, rfl, e1, a, v, s, q, rfl, rfl, ha, e3, _, rfl, ?_⟩
    have e4 : inArc p q s = ptLt s q := by simp [inArc, e]
    rw [← e4]
    exact k
theorem ch_arc {K : Frag} {H : Hp} {x a : Addr} {p q s : Pt} {σ : L2.St} {ta tb : TE} {Q : Bool → Hp → Prop} (hx : ArcG K H x p q) (ha : PtAt H a s) (h1 : ∀ Q' : VK, Q' (.ref x) H → ta σ H Q') (h2 : ∀ Q' : VK, Q' (.ref a) H → tb σ H Q') (k : Q (inArc p q s) H) :
    tTest (tChain (rPt fun p q => !ptLt q p) (rPt ptLt) (tProp (ga K "Arc") (sp_Arc_start K) [] E0 ta) tb (tProp (ga K "Arc") (sp_Arc_end K) [] E0 ta)) σ H Q := by
  obtain ⟨⟨dx, u, v, e1, e2, e3⟩, g1, g2, lt⟩ := hx
  refine h1 _ ⟨x, dx, _, rfl, e1, x, dx, u, v, rfl, e1, h2 _ ⟨u, a, p, s, rfl, rfl, e2, ha, _, rfl, ?_⟩⟩
  by_cases e : ptLt s p = true
  · rw [if_neg (by simp [e])]
    have e4 : inArc p q s = false := by simp [inArc, e]
    rw [e4] at k
    exact ⟨_, rfl, k⟩
  · rw [if_pos (by simp [e])]
    refine h1 _ ⟨x, dx, _, rfl, e1, x, dx, u, v, rfl, e1, a, v, s, q, rfl, rfl, ha, e3, _, rfl, ?_⟩
    have e4 : inArc p q s = ptLt s q := by simp [inArc, e]
    rw [← e4]
    exact k

def sp__law_points (K : Frag) : Sp := fun vs H Q _ => vs = [.int 4] ∧ ∀ H' L as, Same H H' → H L = none → H' L = some (.lst (as.map V.ref)) → PtsAt H' as PTS → Q (.ref L) H'
theorem sc__law_points : FnScope ["_law_most", "_law_found", "_law_number", "_law_text"] ["_law_most"] (defScope s__law_points) := ⟨rfl, rfl, rfl, by decide +kernel, rfl, by decide +kernel, by decide +kernel⟩
theorem ok__law_points {P : Program} {w : World} {K : Frag} {mg : Str → Option Value} {base : Heap} (T : Txt K mg) : FnB P w K mg base 1 (glA "_law_points" K) (sp__law_points K) := by
  refine okD (N := ["_law_most", "_law_found", "_law_number", "_law_text"]) (ps := ["_law_most"]) (k := 0) (d := g__law_points) T.d__law_points rfl sc__law_points (fun vs H Q E h => ?_) (fun _ _ _ _ _ _ us hl => match us, hl with | [_], _ => rfl) (fun A outer s H vs Q E hr h => ?_)
  · obtain ⟨rfl, q⟩ := h
    rfl
  · have hu := hr.hu
    obtain ⟨rfl, q⟩ := h
    refine ⟨_, PSs.nox ((pss_cons (ps_set (i := 1) sc__law_points.nd rfl (Or.inl rfl) (pe_lst pa_nil))
      (pss_cons (ps_for PassesOwn.never rfl (pi_range1 (by rfl) T.b_range (pa_cons (pe_op op_add (pv 0) pe_int) pa_nil)) (pg_name (i := 2) sc__law_points.nd rfl (Or.inr rfl))
        (pss_one (ps_set (i := 1) sc__law_points.nd rfl (Or.inl rfl) (pe_op op_cat (pv 1) (pe_lc (own := [("_law_text", 3)]) (g := gName 3) rfl sc__law_points.nd (pi_list (pe_lst (pa_cons pe_str (pa_cons pe_str (pa_cons pe_str (pa_cons pe_str (pa_cons pe_str pa_nil))))))) (blkOk_by (N := ["_law_most", "_law_found", "_law_number", "_law_text"]) (sc := defScope s__law_points) (by decide +kernel)) (fun _ _ _ _ _ => pg_name (i := 3) sc__law_points.nd rfl (Or.inl rfl)) (fun _ _ _ _ _ => pts_nil) (fun _ _ _ _ _ => (pe_tup (pa_cons (pv 2) (pa_cons (pv 3) pa_nil)))))))))
      (pss_one (ps_ret (pv 1)))))), ?_⟩
    walk_at "nm"
    refine ⟨by rw [sizeLine_eq]; first | decide | simp, fun F0 nF0 => ?_⟩
    generalize hg : upd _ F0 _ = G0
    have t0 := sameOf nF0 hg
    have e0 := atOf hg
    clear hg
    refine ⟨_, rfl, _, _, rfl, rfl, 5, rfl, by decide, by decide, ?_⟩
    refine for_it walk_range (fun j σ' H' => ∃ (F : Addr) (w1 w2 : Option V) (as : List Addr), σ' = [some (.int 4), some (.ref F), w1, w2] ∧ Same H H' ∧ H F = none ∧ H' F = some (.lst (as.map V.ref)) ∧ PtsAt H' as (ptsTo j)) ⟨F0, none, none, [], rfl, t0, nF0, e0, .nil⟩ (fun _ _ _ _ _ => trivial) ?_ ?_
    · rintro j y σ' H1 H2 hj ⟨F, w1, w2, as, rfl, s1, nF, hF, hp⟩ ⟨rfl, rfl⟩
      replace hj : j < 5 := hj
      have lp := hp.len
      rw [ptsTo_len] at lp
      walk_at "nm"
      refine lc_pts (xs := txts.map V.str) (ps := txts.map fun t => ((j : Int), t)) (by simp) (by simp [txts]) (fun Q' q' => ?_) (fun n y p G Q' hy hp sG q' => ?_) (fun y => rfl) fun H3 D bs s3 nD hD hb => ?_
      · walk_at "nm"
        refine ⟨by rw [sizeLine_eq]; first | decide | simp, fun p1 np1 => ?_⟩
        generalize hg : upd _ p1 _ = G1
        have t1 := sameOf np1 hg
        have e1 := atOf hg
        clear hg
        exact q' G1 p1 t1 e1
      · walk_at "nm"
        rw [List.getElem?_map] at hy hp
        cases et : txts[n]? with
        | none =>
          rw [et] at hy
          cases hy
        | some t =>
          rw [et] at hy hp
          cases hy
          cases hp
          refine ⟨_, rfl, _, rfl, ?_⟩
          refine ⟨by rw [sizeLine_eq]; first | decide | simp, fun p1 np1 => ?_⟩
          generalize hg : upd _ p1 _ = G1
          have t1 := sameOf np1 hg
          have e1 := atOf hg
          clear hg
          refine q' p1 G1 t1 ?_
          rw [Int.zero_add] at e1
          exact e1
      have lb := hb.len
      refine ⟨F, D, _, _, rfl, rfl, s3 _ _ hF, hD, ?_, ?_⟩
      · rw [List.length_map, List.length_map, lb, lp, sizeLine_eq]
        simp [txts]
        omega
      intro F2 nF2
      generalize hg : upd _ F2 _ = G2
      have t2 := sameOf nF2 hg
      have e2 := atOf hg
      clear hg
      have k2 := s1.trans (s3.trans t2)
      refine ⟨F2, _, _, ⟨rfl, rfl, rfl⟩, k2, (s1.trans s3).free nF2, as ++ bs, ?_, ?_⟩
      · rw [e2, List.map_append]
      · rw [ptsTo_succ]
        exact (hp.tk (.same (s3.trans t2))).app (hb.tk (.same t2))
    · rintro σ' H1 ⟨F, w1, w2, as, rfl, s1, nF, hF, hp⟩
      exact ⟨_, rfl, q H1 F as s1 nF hF hp⟩

def sp__law_fault (K : Frag) : Sp := fun vs H Q _ => ∃ (x l L : Addr) (xs as : List Addr) (p q : Pt) (ar : List (Pt × Pt)) (ps : List Pt), vs = [.ref x, .ref l, .ref L] ∧ ArcG K H x p q ∧ H l = some (.lst (xs.map V.ref)) ∧ ArcsIn K H xs ar ∧ ar.length ≤ 1000 ∧ H L = some (.lst (as.map V.ref)) ∧ PtsAt H as ps ∧ (∀ s ∈ ps, GP s) ∧
  ∀ v H', Same H H' → FaultV H' v (firstFault (faultAt p q ar) ps) → Q v H'
theorem sc__law_fault : FnScope ["_law_arc", "_law_arcs", "_law_points_here", "_law_point", "_law_many", "_law_one"] ["_law_arc", "_law_arcs", "_law_points_here"] (defScope s__law_fault) := ⟨rfl, rfl, rfl, by decide +kernel, rfl, by decide +kernel, by decide +kernel⟩
theorem ok__law_fault {P : Program} {w : World} {K : Frag} {mg : Str → Option Value} {base : Heap} (T : Txt K mg) : FnB P w K mg base 3 (glA "_law_fault" K) (sp__law_fault K) := by
  refine okD (N := ["_law_arc", "_law_arcs", "_law_points_here", "_law_point", "_law_many", "_law_one"]) (ps := ["_law_arc", "_law_arcs", "_law_points_here"]) (k := 2) (d := g__law_fault) T.d__law_fault rfl sc__law_fault (fun vs H Q E h => ?_) (fun _ _ _ _ _ _ us hl => match us, hl with | [_, _, _], _ => rfl) (fun A outer s H vs Q E hr h => ?_)
  · obtain ⟨x, l, L, xs, as, p, r, ar, ps, rfl, hx, hl, ha, few, hL, hps, hgp, q⟩ := h
    rfl
  · have hu := hr.hu
    obtain ⟨x, l, L, xs, as, p, r, ar, ps, rfl, hx, hl, ha, few, hL, hps, hgp, q⟩ := h
    refine ⟨_, PSs.nox ((pss_cons (ps_for PassesOwn.never rfl (pi_list (pv 2)) (pg_name (i := 3) sc__law_fault.nd rfl (Or.inr rfl))
        (pss_cons (ps_set (i := 4) sc__law_fault.nd rfl (Or.inl rfl) (pe_callB call_len_seq (by rfl) T.b_len (by decide +kernel) (pa_cons (pe_lc (own := [("_law_one", 5)]) (g := gName 5) rfl sc__law_fault.nd (pi_list (pv 1)) (blkOk_by (N := ["_law_arc", "_law_arcs", "_law_points_here", "_law_point", "_law_many", "_law_one"]) (sc := defScope s__law_fault) (by decide +kernel)) (fun _ _ _ _ _ => pg_name (i := 5) sc__law_fault.nd rfl (Or.inl rfl)) (fun _ _ _ _ _ => (pts_one (pt_chain (op_leP (hu64 hr)) (op_ltP (hu64 hr)) (pe_prF (pv 5) T.c_Arc T.p_Arc_start (ok_Arc_start (K := K) T) hr passL) (pv 3) (pe_prF (pv 5) T.c_Arc T.p_Arc_end (ok_Arc_end (K := K) T) hr passL)))) (fun _ _ _ _ _ => (pv 5))) pa_nil)))
        (pss_cons (ps_if (pt_cmpR op_gt (pv 4) pe_int (nomark _))
          (pss_one (ps_ret (pe_tup (pa_cons pe_str (pa_cons (pv 3) pa_nil)))))
          pss_nil)
        (pss_cons (ps_if (PW.pt (pw_and (pt_cmpR op_eq (pv 4) pe_int (nomark _)) (pw_and1 (pt_not (pt_chain (op_leP (hu64 hr)) (op_ltP (hu64 hr)) (pe_prF (pv 0) T.c_Arc T.p_Arc_start (ok_Arc_start (K := K) T) hr passL) (pv 3) (pe_prF (pv 0) T.c_Arc T.p_Arc_end (ok_Arc_end (K := K) T) hr passL))))))
          (pss_one (ps_ret (pe_tup (pa_cons pe_str (pa_cons (pv 3) pa_nil)))))
          pss_nil)
        (pss_one (ps_if (PW.pt (pw_and (pt_cmpR op_eq (pv 4) pe_int (nomark _)) (pw_and1 (pt_chain (op_leP (hu64 hr)) (op_ltP (hu64 hr)) (pe_prF (pv 0) T.c_Arc T.p_Arc_start (ok_Arc_start (K := K) T) hr passL) (pv 3) (pe_prF (pv 0) T.c_Arc T.p_Arc_end (ok_Arc_end (K := K) T) hr passL)))))
          (pss_one (ps_ret (pe_tup (pa_cons pe_str (pa_cons (pv 3) pa_nil)))))
          pss_nil))))))
      (pss_one (ps_ret pe_non)))), ?_⟩
    have hlx := ha.len
    refine ⟨_, rfl, L, rfl, ⟨_, SqL.of hL⟩, for_list (K := K) (a := L) (xs := as.map V.ref) (fun j σ' H' => (∃ w1 w2 w3, σ' = [some (.ref x), some (.ref l), some (.ref L), w1, w2, w3]) ∧ Same H H' ∧ firstFault (faultAt p r ar) ps = firstFault (faultAt p r ar) (ps.drop j)) ⟨⟨_, _, _, rfl⟩, Same.refl _, by rw [List.drop_zero]⟩ (fun j σ' H' _ p => SqL.of (p.2.1 _ _ hL)) ?_ ?_⟩
    · rintro j y σ' H3 hj ⟨⟨w1, w2, w3, rfl⟩, s3, hff⟩
      obtain ⟨a, haj, rfl⟩ := get_ref hj
      obtain ⟨s', hs', hat⟩ := hps.at haj
      have gs := hgp s' (List.mem_of_getElem? hs')
      have hl3 := s3 _ _ hl
      have ha3 := ha.same s3
      walk_at "nm"
      refine lc_count (cs := ar.map fun a => inArc a.1 a.2 s') hl3 (by simp [hlx]) (by rw [List.length_map]; omega) (fun Q' q' => ⟨_, rfl, q'⟩) (fun n y b G Q' hy hb sG q' => ?_) (fun y G Q' q' => ⟨_, rfl, q'⟩) (fun y => rfl) fun H4 D4 ys s4 nD4 hD4 hlen4 => ?_
      · obtain ⟨y', hy', rfl⟩ := get_ref hy
        obtain ⟨e, ee, hg⟩ := (ha3.same sG).at hy'
        rw [List.getElem?_map, ee] at hb
        cases hb
        exact ch_arc hg (hat.same (s3.trans sG)) (fun Q2 q2 => ⟨_, rfl, q2⟩) (fun Q2 q2 => ⟨_, rfl, q2⟩) (q' G (Same.refl _))
      have hy4 : ys.length = cnt ar s' := hlen4
      have k4 := s3.trans s4
      refine ⟨D4, rfl, ys, .inl (SqL.of hD4), ?_⟩
      rw [hy4]
      have out : ∀ (w : Str), faultAt p r ar s' = some w → ∀ t, H4 t = none → Q (.ref t) (upd H4 t (.tup [.str w, .ref a])) := fun w ef t nt => by
        have s9 := Same.upd (o := .tup [.str w, .ref a]) k4 nt
        refine q _ _ s9 ?_
        rw [hff, ff_drop hs', ef]
        exact ⟨t, a, rfl, upd_same, hat.same s9, gs⟩
      have two : 2 ≤ sizeLine := by rw [sizeLine_eq]; decide
      have go : faultAt p r ar s' = none → (∃ x, w3 = x) ∧ Same H H4 ∧ firstFault (faultAt p r ar) ps = firstFault (faultAt p r ar) (ps.drop (j + 1)) := fun ef => by
        refine ⟨⟨_, rfl⟩, k4, ?_⟩
        rw [hff, ff_drop hs', ef]
      by_cases c1 : 1 < ((cnt ar s' : Nat) : Int)
      · rw [if_pos c1]
        exact ⟨two, out _ (by unfold faultAt; rw [if_pos (by omega)])⟩
      rw [if_neg c1]
      refine ⟨rfl, _, rfl, ?_⟩
      have hx4 := hx.same k4
      have ha4 := hat.same k4
      by_cases c3 : cnt ar s' = 1
      · have f1 : inArc p r s' = false → faultAt p r ar s' = some (Str.ofString "outside") := fun e => by
          unfold faultAt
          rw [c3, e]
          rfl
        have f2 : inArc p r s' = true → faultAt p r ar s' = none := fun e => by
          unfold faultAt
          rw [c3, e]
          rfl
        rw [c3]
        rw [if_pos (by decide)]
        refine ch_open hx4 ha4 (fun Q2 q2 => ⟨_, rfl, q2⟩) ?_ fun e => ⟨two, out _ (f1 e)⟩
        cases ei : inArc p r s' with
        | false =>
          rw [if_pos rfl]
          exact ⟨two, out _ (f1 ei)⟩
        | true =>
          rw [if_neg (by decide)]
          refine ⟨rfl, _, rfl, ?_⟩
          rw [if_neg (by decide)]
          exact go (f2 ei)
      · have c0 : cnt ar s' = 0 := by omega
        have f1 : inArc p r s' = true → faultAt p r ar s' = some (Str.ofString "gap") := fun e => by
          unfold faultAt
          rw [c0, e]
          rfl
        have f2 : inArc p r s' = false → faultAt p r ar s' = none := fun e => by
          unfold faultAt
          rw [c0, e]
          rfl
        rw [c0]
        rw [if_neg (by decide)]
        refine ⟨rfl, _, rfl, ?_⟩
        rw [if_pos (by decide)]
        refine ch_open hx4 ha4 (fun Q2 q2 => ⟨_, rfl, q2⟩) ?_ fun e => go (f2 e)
        cases ei : inArc p r s' with
        | true =>
          rw [if_pos rfl]
          exact ⟨two, out _ (f1 ei)⟩
        | false =>
          rw [if_neg (by decide)]
          exact go (f2 ei)
    · rintro σ' H3 ⟨⟨w1, w2, w3, rfl⟩, s3, hff⟩
      rw [List.length_map, hps.len, List.drop_length] at hff
      refine q .non H3 s3 ?_
      rw [hff]
      rfl

/-! the plain law -/
abbrev Srt (l : List Pt) : Prop := l.Pairwise (fun a b => ptLt a b = true)
theorem srtPTS : Srt PTS := by decide +kernel
theorem gpPTS : ∀ s ∈ PTS, GP s := by
  have h : ∀ s ∈ PTS, 0 ≤ s.1 ∧ s.1 < 2000000 ∧ isPt s = true ∧ s.2.length ≤ 30 ∧ PyData.strOk s.2 = true := by decide +kernel
  exact fun s hs => let ⟨h1, h2, h3, h4, h5⟩ := h s hs; ⟨h1, h2, h3, h4, h5⟩
theorem ff_none {f : Pt → Option Str} : ∀ {l : List Pt}, (∀ s ∈ l, f s = none) → firstFault f l = none
  | [], _ => rfl
  | s :: r, h => by
    unfold firstFault
    rw [h s List.mem_cons_self]
    exact ff_none fun t ht => h t (List.mem_cons_of_mem _ ht)
theorem ff_some {f : Pt → Option Str} {w : Str} {s : Pt} : ∀ {l : List Pt}, Srt l → s ∈ l → f s = some w → (∀ t ∈ l, ptLt t s = true → f t = none) → firstFault f l = some (w, s)
  | [], _, h, _, _ => by simp at h
  | a :: r, hs, hm, hf, hn => by
    have a1 := List.pairwise_cons.mp hs
    unfold firstFault
    rcases List.mem_cons.mp hm with rfl | hm
    · rw [hf]
    · rw [hn a List.mem_cons_self (a1.1 s hm)]
      exact ff_some a1.2 hm hf fun t ht => hn t (List.mem_cons_of_mem _ ht)
theorem ff_split (f : Pt → Option Str) : ∀ {l : List Pt}, Srt l → (∀ s ∈ l, f s = none) ∨ ∃ w s, s ∈ l ∧ f s = some w ∧ ∀ t ∈ l, ptLt t s = true → f t = none
  | [], _ => .inl (by simp)
  | a :: r, hs => by
    have a1 := List.pairwise_cons.mp hs
    cases e : f a with
    | some w =>
      refine .inr ⟨w, a, List.mem_cons_self, e, fun t ht lt => ?_⟩
      rcases List.mem_cons.mp ht with rfl | ht
      · rw [ptLt_irrefl] at lt
        cases lt
      · rw [ptLt_asymm (a1.1 t ht)] at lt
        cases lt
    | none =>
      rcases ff_split f a1.2 with h | ⟨w, s, h1, h2, h3⟩
      · refine .inl fun t ht => ?_
        rcases List.mem_cons.mp ht with rfl | ht
        · exact e
        · exact h t ht
      · refine .inr ⟨w, s, List.mem_cons_of_mem _ h1, h2, fun t ht lt => ?_⟩
        rcases List.mem_cons.mp ht with rfl | ht
        · exact e
        · exact h3 t ht lt
/-- the first fault is at a mark -/
theorem ff_marks {f : Pt → Option Str} {qs ps : List Pt} (hq : Srt qs) (hp : Srt ps) (sub : ∀ s ∈ qs, s ∈ ps) (key : ∀ s ∈ ps, f s ≠ none → s ∉ qs → ∃ t ∈ ps, ptLt t s = true ∧ f t ≠ none) : firstFault f qs = firstFault f ps := by
  rcases ff_split f hp with h | ⟨w, s, h1, h2, h3⟩
  · rw [ff_none h, ff_none fun s hs => h s (sub s hs)]
  · have hin : s ∈ qs := by
      by_cases hs : s ∈ qs
      · exact hs
      · obtain ⟨t, ht, lt, ne⟩ := key s h1 (by rw [h2]; simp) hs
        exact absurd (h3 t ht lt) ne
    rw [ff_some hp h1 h2 h3, ff_some hq hin h2 fun t ht lt => h3 t (sub t ht) lt]
theorem prev_of {ps : List Pt} (hp : Srt ps) {s : Pt} (hs : s ∈ ps) : (∀ t ∈ ps, ptLt t s = false) ∨ ∃ t ∈ ps, ptLt t s = true ∧ ∀ u ∈ ps, ptLt u s = true → ptLt t u = false := by
  obtain ⟨i, hi, rfl⟩ := List.getElem_of_mem hs
  have pw := List.pairwise_iff_getElem.mp hp
  cases i with
  | zero =>
    refine .inl fun t ht => ?_
    obtain ⟨j, hj, rfl⟩ := List.getElem_of_mem ht
    cases j with
    | zero => exact ptLt_irrefl _
    | succ j => exact ptLt_asymm (pw 0 (j + 1) hi hj (by omega))
  | succ i =>
    refine .inr ⟨ps[i], List.getElem_mem _, pw i (i + 1) _ _ (by omega), fun u hu lt => ?_⟩
    obtain ⟨j, hj, rfl⟩ := List.getElem_of_mem hu
    rcases Nat.lt_trichotomy j i with h | h | h
    · exact ptLt_asymm (pw j i hj _ h)
    · subst h
      exact ptLt_irrefl _
    · rcases Nat.lt_or_ge (i + 1) j with h2 | h2
      · have := ptLt_asymm (pw (i + 1) j hi hj h2)
        rw [this] at lt
        cases lt
      · have : j = i + 1 := by omega
        subst this
        rw [ptLt_irrefl] at lt
        cases lt
/-- all ends of the arcs are points of the list -/
def EndsIn (ps : List Pt) (ar : List (Pt × Pt)) : Prop := ∀ a ∈ ar, a.1 ∈ ps ∧ a.2 ∈ ps ∧ ptLt a.1 a.2 = true
theorem inArc_prev {ps : List Pt} {s t u v : Pt} (ht : ptLt t s = true) (hn : ∀ x ∈ ps, ptLt x s = true → ptLt t x = false) (hu : u ∈ ps) (hv : v ∈ ps) (us : u ≠ s) (vs : v ≠ s) : inArc u v t = inArc u v s := by
  have e1 : ptLt t u = ptLt s u := by
    cases e : ptLt s u with
    | true => exact ptLt_trans ht e
    | false =>
      cases e2 : ptLt u s with
      | true => exact hn u hu e2
      | false => exact absurd (ptLt_total e2 e) us
  have e2 : ptLt t v = ptLt s v := by
    cases e : ptLt s v with
    | true => exact ptLt_trans ht e
    | false =>
      cases e2 : ptLt v s with
      | true => exact hn v hv e2
      | false => exact absurd (ptLt_total e2 e) vs
  unfold inArc
  rw [e1, e2]
theorem cnt_congr {ar : List (Pt × Pt)} {s t : Pt} (h : ∀ a ∈ ar, inArc a.1 a.2 t = inArc a.1 a.2 s) : cnt ar t = cnt ar s := by
  unfold cnt
  rw [List.map_congr_left h]
theorem cnt_zero {ar : List (Pt × Pt)} {s : Pt} (h : ∀ a ∈ ar, inArc a.1 a.2 s = false) : cnt ar s = 0 := by
  unfold cnt
  rw [List.count_eq_zero]
  intro z
  obtain ⟨a, ha, e⟩ := List.mem_map.mp z
  rw [h a ha] at e
  cases e
/-- tiling_fault's look at the marks tells what the look at every point tells -/
theorem fault_same {p q : Pt} {ar : List (Pt × Pt)} {qs ps : List Pt} (hq : Srt qs) (hp : Srt ps) (hm : ∀ s, s ∈ qs ↔ s ∈ ((p, q) :: ar).flatMap fun e => [e.1, e.2]) (he : EndsIn ps ((p, q) :: ar)) : firstFault (faultAt p q ar) qs = firstFault (faultAt p q ar) ps := by
  have inq : ∀ a ∈ (p, q) :: ar, a.1 ∈ qs ∧ a.2 ∈ qs := fun a ha => by
    rw [hm, hm]
    exact ⟨List.mem_flatMap.mpr ⟨a, ha, by simp⟩, List.mem_flatMap.mpr ⟨a, ha, by simp⟩⟩
  refine ff_marks hq hp (fun s hs => ?_) fun s hs hf hn => ?_
  · obtain ⟨a, ha, h⟩ := List.mem_flatMap.mp ((hm s).mp hs)
    simp only [List.mem_cons, List.not_mem_nil, or_false] at h
    rcases h with rfl | rfl
    · exact (he a ha).1
    · exact (he a ha).2.1
  · have ne : ∀ a ∈ (p, q) :: ar, a.1 ≠ s ∧ a.2 ≠ s := fun a ha => ⟨fun e => hn (e ▸ (inq a ha).1), fun e => hn (e ▸ (inq a ha).2)⟩
    rcases prev_of hp hs with h | ⟨t, ht, lt, hmax⟩
    · refine absurd ?_ hf
      have none_in : ∀ a ∈ (p, q) :: ar, inArc a.1 a.2 s = false := fun a ha => by
        have h1 := h a.1 (he a ha).1
        have : ptLt s a.1 = true := by
          cases e : ptLt s a.1 with
          | true => rfl
          | false => exact absurd (ptLt_total h1 e) (ne a ha).1
        unfold inArc
        rw [this]
        rfl
      unfold faultAt
      rw [cnt_zero fun a ha => none_in a (List.mem_cons_of_mem _ ha), none_in (p, q) List.mem_cons_self]
      rfl
    · have same : ∀ a ∈ (p, q) :: ar, inArc a.1 a.2 t = inArc a.1 a.2 s := fun a ha => inArc_prev lt hmax (he a ha).1 (he a ha).2.1 (ne a ha).1 (ne a ha).2
      refine ⟨t, ht, lt, ?_⟩
      have e : faultAt p q ar t = faultAt p q ar s := by
        unfold faultAt
        rw [cnt_congr fun a ha => same a (List.mem_cons_of_mem _ ha), same (p, q) List.mem_cons_self]
      rw [e]
      exact hf
theorem cnt_cons (a : Pt × Pt) (ar : List (Pt × Pt)) (s : Pt) : cnt (a :: ar) s = (if inArc a.1 a.2 s = true then 1 else 0) + cnt ar s := by
  unfold cnt
  rw [List.map_cons, List.count_cons]
  cases inArc a.1 a.2 s <;> simp <;> omega
theorem last_ge : ∀ (r : List Pt) (b : Pt) (h : b :: r ≠ []), Srt (b :: r) → b = (b :: r).getLast h ∨ ptLt b ((b :: r).getLast h) = true
  | [], b, _, _ => .inl rfl
  | c :: r, b, h, hs => by
    right
    have := List.pairwise_cons.mp hs
    rw [List.getLast_cons (by simp)]
    exact this.1 _ (List.getLast_mem _)
/-- the parts hold each point of the whole once -/
theorem cnt_pairs (s : Pt) : ∀ (r : List Pt) (a : Pt) (h : a :: r ≠ []), Srt (a :: r) → cnt (pairs (a :: r)) s = if inArc a ((a :: r).getLast h) s = true then 1 else 0
  | [], a, h, _ => by
    have : inArc a a s = false := by
      unfold inArc
      cases ptLt s a <;> rfl
    show 0 = if inArc a a s = true then 1 else 0
    rw [this]
    rfl
  | b :: r, a, h, hs => by
    have hc := List.pairwise_cons.mp hs
    have ih := cnt_pairs s r b (by simp) hc.2
    have ab := hc.1 b List.mem_cons_self
    have bl := last_ge r b (by simp) hc.2
    show cnt ((a, b) :: pairs (b :: r)) s = _
    rw [cnt_cons, List.getLast_cons (show b :: r ≠ [] by simp), ih]
    generalize (b :: r).getLast _ = l at bl ⊢
    unfold inArc
    cases e : ptLt s b with
    | true =>
      have : ptLt s l = true := by
        rcases bl with rfl | bl
        · exact e
        · exact ptLt_trans e bl
      rw [this]
      cases ptLt s a <;> rfl
    | false =>
      have : ptLt s a = false := by
        cases e2 : ptLt s a with
        | false => rfl
        | true =>
          rw [ptLt_trans e2 ab] at e
          cases e
      rw [this]
      cases ptLt s l <;> rfl
theorem Ends.srt {p q : Pt} {ps ms : List Pt} (h : Ends p q ps ms) (lt : ptLt p q = true) : Srt ms := by
  obtain ⟨qs, rfl, h1, h2⟩ := h
  refine List.pairwise_cons.mpr ⟨fun s hs => ?_, List.pairwise_append.mpr ⟨h1, by simp, fun a ha b hb => ?_⟩⟩
  · rcases List.mem_append.mp hs with hs | hs
    · exact ((h2 s).mp hs).2.1
    · rw [List.mem_singleton] at hs
      subst hs
      exact lt
  · rw [List.mem_singleton] at hb
    subst hb
    exact ((h2 a).mp ha).2.2
theorem Ends.cnt {p q : Pt} {ps ms : List Pt} (h : Ends p q ps ms) (lt : ptLt p q = true) (s : Pt) : cnt (pairs ms) s = if inArc p q s = true then 1 else 0 := by
  have hs := h.srt lt
  obtain ⟨qs, rfl, h1, h2⟩ := h
  rw [cnt_pairs s _ _ (by simp) hs]
  have : (p :: (qs ++ [q])).getLast (by simp) = q := by
    rw [List.getLast_cons (by simp)]
    simp
  rw [this]
theorem fault_none {p q : Pt} {ar : List (Pt × Pt)} {s : Pt} (h : cnt ar s = if inArc p q s = true then 1 else 0) : faultAt p q ar s = none := by
  unfold faultAt
  rw [h]
  cases inArc p q s <;> rfl
theorem cnt_rev (ar : List (Pt × Pt)) (s : Pt) : cnt ar.reverse s = cnt ar s := by
  unfold cnt
  rw [List.map_reverse, List.count_reverse]
theorem pairs_mem : ∀ {ms : List Pt} {a : Pt × Pt}, Srt ms → a ∈ pairs ms → a.1 ∈ ms ∧ a.2 ∈ ms ∧ ptLt a.1 a.2 = true
  | [], a, _, h => by simp [pairs] at h
  | [x], a, _, h => by simp [pairs] at h
  | x :: y :: r, a, hs, h => by
    have hc := List.pairwise_cons.mp hs
    rcases List.mem_cons.mp (show a ∈ (x, y) :: pairs (y :: r) from h) with rfl | h
    · exact ⟨List.mem_cons_self, List.mem_cons_of_mem _ List.mem_cons_self, hc.1 y List.mem_cons_self⟩
    · have := pairs_mem hc.2 h
      exact ⟨List.mem_cons_of_mem _ this.1, List.mem_cons_of_mem _ this.2.1, this.2.2⟩
theorem Ends.endsIn {p q : Pt} {ps ms zs : List Pt} (h : Ends p q ps ms) (lt : ptLt p q = true) (hp : p ∈ zs) (hq : q ∈ zs) (hs : ∀ s ∈ ps, s ∈ zs) : EndsIn zs (pairs ms) := by
  have srt := h.srt lt
  have sub : ∀ s ∈ ms, s ∈ zs := by
    obtain ⟨qs, rfl, h1, h2⟩ := h
    intro s hs'
    rcases List.mem_cons.mp hs' with rfl | hs'
    · exact hp
    · rcases List.mem_append.mp hs' with hs' | hs'
      · exact hs s ((h2 s).mp hs').1
      · rw [List.mem_singleton] at hs'
        subst hs'
        exact hq
  exact fun a ha => let z := pairs_mem srt ha; ⟨sub _ z.1, sub _ z.2.1, z.2.2⟩
theorem ex_free {pl D : Addr} {H H' : Hp} (x : Ex pl H H') (hp : PoolAt H' pl) (n : H' D = none) : H D = none := by
  cases e : H D with
  | none => rfl
  | some o =>
    have := x D o (hp.ne n) e
    rw [n] at this
    cases this
theorem cut_to {xs : List Addr} {i : Nat} (h : i ≤ xs.length) : cutV (xs.map V.ref) none (some (i : Int)) = (xs.take i).map V.ref := by
  unfold cutV
  have e0 : HT.sIx (xs.map V.ref).length 0 none = 0 := rfl
  have e1 : HT.sIx (xs.map V.ref).length (xs.map V.ref).length (some (i : Int)) = i := by
    simp only [HT.sIx, List.length_map]
    split <;> omega
  rw [e0, e1, List.drop_zero, Nat.sub_zero, List.map_take]
theorem cut_from {xs : List Addr} {i : Nat} (h : i ≤ xs.length) : cutV (xs.map V.ref) (some (i : Int)) none = (xs.drop i).map V.ref := by
  unfold cutV
  have e0 : HT.sIx (xs.map V.ref).length 0 (some (i : Int)) = i := by
    simp only [HT.sIx, List.length_map]
    split <;> omega
  have e1 : HT.sIx (xs.map V.ref).length (xs.map V.ref).length none = xs.length := by
    simp [HT.sIx]
  rw [e0, e1, ← List.map_drop]
  rw [List.take_of_length_le (by simp)]
theorem EndsIn.take {ps : List Pt} {ar : List (Pt × Pt)} (h : EndsIn ps ar) (n : Nat) : EndsIn ps (ar.take n) := fun a ha => h a (List.mem_of_mem_take ha)
theorem EndsIn.drop {ps : List Pt} {ar : List (Pt × Pt)} (h : EndsIn ps ar) (n : Nat) : EndsIn ps (ar.drop n) := fun a ha => h a (List.mem_of_mem_drop ha)
theorem EndsIn.app {ps : List Pt} {ar br : List (Pt × Pt)} (h : EndsIn ps ar) (g : EndsIn ps br) : EndsIn ps (ar ++ br) := fun a ha => (List.mem_append.mp ha).elim (h a) (g a)
theorem nodup_le : ∀ {l m : List Pt}, l.Nodup → (∀ x ∈ l, x ∈ m) → l.length ≤ m.length
  | [], m, _, _ => Nat.zero_le _
  | a :: l, m, hn, hs => by
    have h1 := List.nodup_cons.mp hn
    have ha := hs a List.mem_cons_self
    have ih := nodup_le (m := m.erase a) h1.2 fun x hx => (List.mem_erase_of_ne (show x ≠ a from fun e => h1.1 (e ▸ hx))).mpr (hs x (List.mem_cons_of_mem _ hx))
    rw [List.length_erase_of_mem ha] at ih
    have := List.length_pos_of_mem ha
    simp only [List.length_cons]
    omega
theorem srt_nodup {l : List Pt} (h : Srt l) : l.Nodup := h.imp fun {a b} hab e => by
  subst e
  rw [ptLt_irrefl] at hab
  cases hab
theorem Ends.few {p q : Pt} {ps ms : List Pt} (h : Ends p q ps ms) : ms.length ≤ ps.length + 2 := by
  obtain ⟨qs, rfl, h1, h2⟩ := h
  have := nodup_le (srt_nodup h1) fun s hs => ((h2 s).mp hs).1
  simp
  omega
theorem FaultV.same {H H' : Hp} {v : V} {o : Option (Str × Pt)} (h : FaultV H v o) (s : Same H H') : FaultV H' v o := by
  cases o with
  | none => exact h
  | some w =>
    obtain ⟨r, a, h1, h2, h3, h4⟩ := h
    exact ⟨r, a, h1, s _ _ h2, h3.same s, h4⟩
/-- the words of a fault -/
def FaultW (o : Option (Str × Pt)) : Prop := match o with
  | none => True
  | some (w, _) => PyData.strOk w = true
theorem faultW {p q : Pt} {ar : List (Pt × Pt)} : ∀ ps : List Pt, FaultW (firstFault (faultAt p q ar) ps)
  | [] => trivial
  | s :: r => by
    unfold firstFault
    split
    · rename_i w e
      show PyData.strOk w = true
      unfold faultAt at e
      split at e
      · cases e
        decide +kernel
      · split at e
        · cases e
          split <;> decide +kernel
        · cases e
    · exact faultW r
/-- != of two values that tell the same fault -/
theorem neFault {K : Frag} {H : Hp} {v w : V} {p q : Pt} {ar : List (Pt × Pt)} {ps : List Pt} {Q : VK} (h1 : FaultV H v (firstFault (faultAt p q ar) ps)) (h2 : FaultV H w (firstFault (faultAt p q ar) ps)) (k : Q (.bl false) H) : rNeD K v w H Q := by
  have hw := faultW (p := p) (q := q) (ar := ar) ps
  revert h1 h2 hw
  generalize firstFault (faultAt p q ar) ps = o
  intro h1 h2 hw
  cases o with
  | none =>
    cases h1
    cases h2
    exact neD_same .none .non .non rfl k
  | some ws =>
    obtain ⟨r1, a1, rfl, e1, k1, g⟩ := h1
    obtain ⟨r2, a2, rfl, e2, k2, _⟩ := h2
    refine neD_same (.tuple [.str ws.1, ptD ws.2]) (.tup (SqT.of e1) (.cons (.str _) (.cons k1.dp .nil))) (.tup (SqT.of e2) (.cons (.str _) (.cons k2.dp .nil))) (Bool.and_eq_true_iff.mpr ⟨?_, rfl⟩) k
    have z := g.shaped
    have z1 := (Bool.and_eq_true_iff.mp z).1
    show (PyData.strOk ws.1 && ((ptD ws.2).canLay0 && true)) = true
    rw [show PyData.strOk ws.1 = true from hw, show (ptD ws.2).canLay0 = true from z1]
    rfl

def sp__law_bent (K : Frag) : Sp := fun vs H Q _ => ∃ (pl l L : Addr) (xs as : List Addr) (ar : List (Pt × Pt)), vs = [.ref pl, .ref l, .ref L] ∧ PoolAt H pl ∧ H l = some (.lst (xs.map V.ref)) ∧ ArcsIn K H xs ar ∧ 1 ≤ ar.length ∧ ar.length ≤ 100 ∧ EndsIn PTS ar ∧ l ≠ pl ∧ L ≠ pl ∧ H L = some (.lst (as.map V.ref)) ∧ PtsAt H as PTS ∧
  ∀ D xs' ar' H', H' D = some (.lst (xs'.map V.ref)) → H D = none → ArcsIn K H' xs' ar' → EndsIn PTS ar' → ar'.length ≤ 101 → PoolAt H' pl → Ex pl H H' → Q (.ref D) H'
theorem sc__law_bent : FnScope ["_law_pool", "_law_parts", "_law_points_here", "_law_low", "_law_high", "_law_at", "_law_way"] ["_law_pool", "_law_parts", "_law_points_here"] (defScope s__law_bent) := ⟨rfl, rfl, rfl, by decide +kernel, rfl, by decide +kernel, by decide +kernel⟩
theorem ok__law_bent {P : Program} {w : World} {K : Frag} {mg : Str → Option Value} {base : Heap} (T : Txt K mg) : FnB P w K mg base 7 (glA "_law_bent" K) (sp__law_bent K) := by
  refine okD (N := ["_law_pool", "_law_parts", "_law_points_here", "_law_low", "_law_high", "_law_at", "_law_way"]) (ps := ["_law_pool", "_law_parts", "_law_points_here"]) (k := 6) (d := g__law_bent) T.d__law_bent rfl sc__law_bent (fun vs H Q E h => ?_) (fun _ _ _ _ _ _ us hl => match us, hl with | [_, _, _], _ => rfl) (fun A outer s H vs Q E hr h => ?_)
  · obtain ⟨pl, l, L, xs, as, ar, rfl, hp, hl, ha, few1, few, hen, nl, nL, hL, hps, q⟩ := h
    rfl
  · have hu := hr.hu
    obtain ⟨pl, l, L, xs, as, ar, rfl, hp, hl, ha, few1, few, hen, nl, nL, hL, hps, q⟩ := h
    refine ⟨_, PSs.nox ((pss_cons (ps_par (i := 5) (j := 6) (by rfl) sc__law_bent.nd rfl rfl (by decide) rfl rfl (pa_cons (pe_cF (ok__law_draw (K := K) T) hr T.m__law_draw passL (pa_cons (pv 0) (pa_cons (pe_callB call_len_seq (by rfl) T.b_len (by decide +kernel) (pa_cons (pv 1) pa_nil)) pa_nil))) (pa_cons (pe_cF (ok__law_draw (K := K) T) hr T.m__law_draw passL (pa_cons (pv 0) (pa_cons pe_int pa_nil))) pa_nil)) (by rfl))
      (pss_cons (ps_set (i := 3) sc__law_bent.nd rfl (Or.inl rfl) (pe_cF (ok__law_draw (K := K) T) hr T.m__law_draw passL (pa_cons (pv 0) (pa_cons (pe_op op_sub (pe_callB call_len_seq (by rfl) T.b_len (by decide +kernel) (pa_cons (pv 2) pa_nil)) pe_int) pa_nil))))
      (pss_cons (ps_set (i := 4) sc__law_bent.nd rfl (Or.inl rfl) (pe_op op_add (pe_op op_add (pv 3) pe_int) (pe_cF (ok__law_draw (K := K) T) hr T.m__law_draw passL (pa_cons (pv 0) (pa_cons (pe_op op_sub (pe_op op_sub (pe_callB call_len_seq (by rfl) T.b_len (by decide +kernel) (pa_cons (pv 2) pa_nil)) (pv 3)) pe_int) pa_nil)))))
      (pss_cons (ps_if (pt_cmpR op_eq (pv 6) pe_int (nomark _))
        (pss_one (ps_ret (pe_op op_cat (pe_slice sl_list (pv 1) po_none (po_some (pv 5))) (pe_slice sl_list (pv 1) (po_some (pe_op op_add (pv 5) pe_int)) po_none))))
        pss_nil)
      (pss_cons (ps_if (pt_cmpR op_eq (pv 6) pe_int (nomark _))
        (pss_one (ps_ret (pe_op op_cat (pv 1) (pe_lst (pa_cons (pe_ix ix_list (pv 1) (pv 5) (fun _ _ => rfl)) pa_nil)))))
        pss_nil)
      (pss_cons (ps_if (pt_cmpR op_eq (pv 6) pe_int (nomark _))
        (pss_one (ps_ret (pe_op op_cat (pe_op op_cat (pe_slice sl_list (pv 1) po_none (po_some (pv 5))) (pe_lst (pa_cons (pe_mkF T.k_Arc (ok_Arc_init (K := K) T) hr T.m_Arc passL (pa_cons (pe_ix ix_list (pv 2) (pv 3) (fun _ _ => rfl)) (pa_cons (pe_ix ix_list (pv 2) (pv 4) (fun _ _ => rfl)) pa_nil))) pa_nil))) (pe_slice sl_list (pv 1) (po_some (pe_op op_add (pv 5) pe_int)) po_none))))
        pss_nil)
      (pss_one (ps_ret (pe_ifExp (pt_cmpR op_eq (pv 6) pe_int (nomark _)) (pe_op op_cat (pv 1) (pe_lst (pa_cons (pe_mkF T.k_Arc (ok_Arc_init (K := K) T) hr T.m_Arc passL (pa_cons (pe_ix ix_list (pv 2) (pv 3) (fun _ _ => rfl)) (pa_cons (pe_ix ix_list (pv 2) (pv 4) (fun _ _ => rfl)) pa_nil))) pa_nil))) (pe_lst pa_nil))))))))))), ?_⟩
    have hlx := ha.len
    have lps : as.length = 25 := by rw [hps.len, ptsTo_len]
    refine seq_gen (fun σ' H' => ∃ (at_ way : Int), σ' = [some (.ref pl), some (.ref l), some (.ref L), none, none, some (.int at_), some (.int way)] ∧ 0 ≤ at_ ∧ at_ < ar.length ∧ 0 ≤ way ∧ way < 5 ∧ PoolAt H' pl ∧ Ex pl H H') (fun N hN => ?_) ?_
    · walk_at "nm"
      refine ⟨_, .inl (SqL.of hl), pl, _, rfl, hp, by rw [List.length_map]; omega, by rw [List.length_map]; omega, fun w1 H1 a0 a1 hp1 x1 => ?_⟩
      refine ⟨pl, 5, rfl, hp1, by decide, by decide, fun w2 H2 b0 b1 hp2 x2 => ⟨_, _, ⟨rfl, rfl⟩, hN _ _ ⟨w1, w2, rfl, a0, ?_, b0, b1, hp2, x1.trans x2⟩⟩⟩
      rw [List.length_map] at a1
      omega
    rintro σ' H1 ⟨at_, way, rfl, a0, a1, b0, b1, hp1, x1⟩
    refine seq_gen (fun σ' H' => ∃ low : Int, σ' = [some (.ref pl), some (.ref l), some (.ref L), some (.int low), none, some (.int at_), some (.int way)] ∧ 0 ≤ low ∧ low < 24 ∧ PoolAt H' pl ∧ Ex pl H H') (fun N hN => ?_) ?_
    · walk_at "nm"
      refine ⟨_, .inl (SqL.of (x1 _ _ nL hL)), pl, _, rfl, hp1, by rw [List.length_map, lps]; decide, by rw [List.length_map, lps]; decide, fun w1 H2 c0 c1 hp2 x2 => hN _ _ ⟨w1, rfl, c0, ?_, hp2, x1.trans x2⟩⟩
      rw [List.length_map, lps] at c1
      omega
    clear hp1 x1
    rintro σ' H1 ⟨low, rfl, c0, c1, hp1, x1⟩
    refine seq_gen (fun σ' H' => ∃ high : Int, σ' = [some (.ref pl), some (.ref l), some (.ref L), some (.int low), some (.int high), some (.int at_), some (.int way)] ∧ low < high ∧ high ≤ 24 ∧ PoolAt H' pl ∧ Ex pl H H') (fun N hN => ?_) ?_
    · walk_at "nm"
      refine ⟨_, .inl (SqL.of (x1 _ _ nL hL)), pl, _, rfl, hp1, by rw [List.length_map, lps]; omega, by rw [List.length_map, lps]; omega, fun w1 H2 c0 c1 hp2 x2 => ⟨_, rfl, hN _ _ ⟨_, rfl, by omega, ?_, hp2, x1.trans x2⟩⟩⟩
      rw [List.length_map, lps] at c1
      omega
    clear hp1 x1
    rintro σ' H1 ⟨high, rfl, d0, d1, hp1, x1⟩
    have hl1 := x1 _ _ nl hl
    have hL1 := x1 _ _ nL hL
    have ha1 := arcs_ex hp x1 ha
    have hps1 := pts_ex hp x1 hps
    obtain ⟨i, rfl⟩ : ∃ i : Nat, at_ = i := ⟨at_.toNat, by omega⟩
    obtain ⟨lo, rfl⟩ : ∃ i : Nat, low = i := ⟨low.toNat, by omega⟩
    obtain ⟨hi, rfl⟩ : ∃ i : Nat, high = i := ⟨high.toNat, by omega⟩
    have ilt : i < xs.length := by omega
    -- a new arc of two points
    obtain ⟨u, hu⟩ : ∃ u, PTS[lo]? = some u := ⟨_, List.getElem?_eq_getElem (by rw [ptsTo_len]; omega)⟩
    obtain ⟨v, hv⟩ : ∃ v, PTS[hi]? = some v := ⟨_, List.getElem?_eq_getElem (by rw [ptsTo_len]; omega)⟩
    obtain ⟨ua, hua, kua⟩ := pts_at2 hps1 hu
    obtain ⟨va, hva, kva⟩ := pts_at2 hps1 hv
    have ulv : ptLt u v = true := by
      obtain ⟨h1, rfl⟩ := List.getElem?_eq_some_iff.mp hu
      obtain ⟨h2, rfl⟩ := List.getElem?_eq_some_iff.mp hv
      exact List.pairwise_iff_getElem.mp srtPTS lo hi h1 h2 (by omega)
    have um := List.mem_of_getElem? hu
    have vm := List.mem_of_getElem? hv
    have gu := gpPTS u um
    have gv := gpPTS v vm
    have euv : EndsIn PTS [(u, v)] := fun a ha => by
      rw [List.mem_singleton] at ha
      subst ha
      exact ⟨um, vm, ulv⟩
    have ixu : atI (as.map V.ref) (lo : Int) = some (.ref ua) := atI_nat (by rw [List.getElem?_map, hua]; rfl)
    have ixv : atI (as.map V.ref) (hi : Int) = some (.ref va) := atI_nat (by rw [List.getElem?_map, hva]; rfl)
    have fr : ∀ {D : Addr} {G : Hp}, Same H1 G → G D = none → H D = none := fun sG n => ex_free x1 hp1 (sG.free n)
    have cl1 : ∀ n, (ar.take n).length ≤ 100 := fun n => by rw [List.length_take]; omega
    refine seq_gen (fun σ' H' => σ' = [some (.ref pl), some (.ref l), some (.ref L), some (.int lo), some (.int hi), some (.int i), some (.int way)] ∧ H1 = H') (fun N hN => ?_) ?_
    · walk_at "nm"
      refine ⟨rfl, _, rfl, ?_⟩
      by_cases c : V.int way = V.int 0
      · rw [if_pos (decide_eq_true c)]
        refine ⟨l, _, rfl, SqL.of hl1, fun p1 n1 => ?_⟩
        rw [cut_to (by omega)]
        generalize hg : upd _ p1 _ = G1
        have t1 := sameOf n1 hg
        have e1 := atOf hg
        clear hg
        refine ⟨l, _, rfl, SqL.of (t1 _ _ hl1), fun p2 n2 => ?_⟩
        rw [show ((i : Int) + 1) = ((i + 1 : Nat) : Int) by omega, cut_from (by omega)]
        generalize hg : upd _ p2 _ = G2
        have t2 := sameOf n2 hg
        have e2 := atOf hg
        clear hg
        refine ⟨p1, p2, _, _, rfl, rfl, t2 _ _ e1, e2, by simp only [List.length_map, List.length_take, List.length_drop, sizeLine_eq]; omega, ?_⟩
        intro D nD
        generalize hg : upd _ D _ = G3
        have t3 := sameOf nD hg
        have e3 := atOf hg
        clear hg
        have k3 := t1.trans (t2.trans t3)
        refine q D (xs.take i ++ xs.drop (i + 1)) (ar.take i ++ ar.drop (i + 1)) G3 (by rw [e3, List.map_append]) (fr (t1.trans t2) nD) ((ha1.take i).app (ha1.drop (i + 1)) |>.same k3) ((hen.take i).app (hen.drop _)) (by simp only [List.length_append, List.length_take, List.length_drop]; omega) (hp1.same k3) (x1.trans (Ex.of_same k3))
      · rw [if_neg (fun z => c (of_decide_eq_true z))]
        exact hN _ _ ⟨rfl, rfl⟩
    rintro _ _ ⟨rfl, rfl⟩
    refine seq_gen (fun σ' H' => σ' = [some (.ref pl), some (.ref l), some (.ref L), some (.int lo), some (.int hi), some (.int i), some (.int way)] ∧ H1 = H') (fun N hN => ?_) ?_
    · walk_at "nm"
      refine ⟨rfl, _, rfl, ?_⟩
      by_cases c : V.int way = V.int 1
      · rw [if_pos (decide_eq_true c)]
        obtain ⟨a, ea, hxa⟩ := ha1.at (List.getElem?_eq_getElem ilt)
        refine ixL (SqL.of hl1) (atI_nat (by rw [List.getElem?_map, List.getElem?_eq_getElem ilt]; rfl)) ?_
        refine ⟨by rw [sizeLine_eq]; first | decide | simp, fun p1 n1 => ?_⟩
        generalize hg : upd _ p1 _ = G1
        have t1 := sameOf n1 hg
        have e1 := atOf hg
        clear hg
        refine ⟨l, p1, _, _, rfl, rfl, t1 _ _ hl1, e1, by simp only [List.length_map, List.length_cons, List.length_nil, sizeLine_eq]; omega, ?_⟩
        intro D nD
        generalize hg : upd _ D _ = G2
        have t2 := sameOf nD hg
        have e2 := atOf hg
        clear hg
        have k2 := t1.trans t2
        refine q D (xs ++ [xs[i]]) (ar ++ [a]) G2 (by rw [e2, List.map_append]; rfl) (fr t1 nD) ((ha1.app (.cons hxa .nil)).same k2) (hen.app fun b hb => ?_) (by simp only [List.length_append, List.length_cons, List.length_nil]; omega) (hp1.same k2) (x1.trans (Ex.of_same k2))
        rw [List.mem_singleton] at hb
        subst hb
        exact hen b (List.mem_of_getElem? ea)
      · rw [if_neg (fun z => c (of_decide_eq_true z))]
        exact hN _ _ ⟨rfl, rfl⟩
    rintro _ _ ⟨rfl, rfl⟩
    refine seq_gen (fun σ' H' => σ' = [some (.ref pl), some (.ref l), some (.ref L), some (.int lo), some (.int hi), some (.int i), some (.int way)] ∧ H1 = H') (fun N hN => ?_) ?_
    · walk_at "nm"
      refine ⟨rfl, _, rfl, ?_⟩
      by_cases c : V.int way = V.int 2
      · rw [if_pos (decide_eq_true c)]
        refine ⟨l, _, rfl, SqL.of hl1, fun p1 n1 => ?_⟩
        rw [cut_to (by omega)]
        generalize hg : upd _ p1 _ = G1
        have t1 := sameOf n1 hg
        have e1 := atOf hg
        clear hg
        refine mkArc (kua.same t1) (kva.same t1) gu gv ulv (fun Q2 q2 => ⟨_, rfl, _, rfl, ixL (SqL.of (t1 _ _ hL1)) ixu ⟨_, rfl, _, rfl, ixL (SqL.of (t1 _ _ hL1)) ixv q2⟩⟩) fun G2 z t2 nz hz => ?_
        refine ⟨by rw [sizeLine_eq]; first | decide | simp, fun p3 n3 => ?_⟩
        generalize hg : upd _ p3 _ = G3
        have t3 := sameOf n3 hg
        have e3 := atOf hg
        clear hg
        refine ⟨p1, p3, _, _, rfl, rfl, t3 _ _ (t2 _ _ e1), e3, by simp only [List.length_map, List.length_take, List.length_cons, List.length_nil, sizeLine_eq]; omega, ?_⟩
        intro p4 n4
        generalize hg : upd _ p4 _ = G4
        have t4 := sameOf n4 hg
        have e4 := atOf hg
        clear hg
        have k4 := t1.trans (t2.trans (t3.trans t4))
        refine ⟨l, _, rfl, SqL.of (k4 _ _ hl1), fun p5 n5 => ?_⟩
        rw [show ((i : Int) + 1) = ((i + 1 : Nat) : Int) by omega, cut_from (by omega)]
        generalize hg : upd _ p5 _ = G5
        have t5 := sameOf n5 hg
        have e5 := atOf hg
        clear hg
        refine ⟨p4, p5, _, _, rfl, rfl, t5 _ _ e4, e5, by simp only [List.length_append, List.length_map, List.length_take, List.length_drop, List.length_cons, List.length_nil, sizeLine_eq]; omega, ?_⟩
        intro D nD
        generalize hg : upd _ D _ = G6
        have t6 := sameOf nD hg
        have e6 := atOf hg
        clear hg
        have k5 := k4.trans t5
        have k6 := k5.trans t6
        have k26 := t3.trans (t4.trans (t5.trans t6))
        refine q D ((xs.take i ++ [z]) ++ xs.drop (i + 1)) ((ar.take i ++ [(u, v)]) ++ ar.drop (i + 1)) G6 (by rw [e6, List.map_append, List.map_append]; rfl) (fr k5 nD) ((((ha1.take i).same k6).app (.cons (hz.same k26) .nil)).app ((ha1.drop (i + 1)).same k6)) (((hen.take i).app euv).app (hen.drop _)) (by simp only [List.length_append, List.length_take, List.length_drop, List.length_cons, List.length_nil]; omega) (hp1.same k6) (x1.trans (Ex.of_same k6))
      · rw [if_neg (fun z => c (of_decide_eq_true z))]
        exact hN _ _ ⟨rfl, rfl⟩
    rintro _ _ ⟨rfl, rfl⟩
    walk_at "nm"
    refine ⟨rfl, _, rfl, ?_⟩
    by_cases c : V.int way = V.int 3
    · rw [if_pos (decide_eq_true c)]
      refine mkArc kua kva gu gv ulv (fun Q2 q2 => ⟨_, rfl, _, rfl, ixL (SqL.of hL1) ixu ⟨_, rfl, _, rfl, ixL (SqL.of hL1) ixv q2⟩⟩) fun G2 z t2 nz hz => ?_
      refine ⟨by rw [sizeLine_eq]; first | decide | simp, fun p3 n3 => ?_⟩
      generalize hg : upd _ p3 _ = G3
      have t3 := sameOf n3 hg
      have e3 := atOf hg
      clear hg
      have k3 := t2.trans t3
      refine ⟨l, p3, _, _, rfl, rfl, k3 _ _ hl1, e3, by simp only [List.length_map, List.length_cons, List.length_nil, sizeLine_eq]; omega, ?_⟩
      intro D nD
      generalize hg : upd _ D _ = G4
      have t4 := sameOf nD hg
      have e4 := atOf hg
      clear hg
      have k4 := k3.trans t4
      refine q D (xs ++ [z]) (ar ++ [(u, v)]) G4 (by rw [e4, List.map_append]; rfl) (fr k3 nD) ((ha1.same k4).app (.cons (hz.same (t3.trans t4)) .nil)) (hen.app euv) (by simp only [List.length_append, List.length_cons, List.length_nil]; omega) (hp1.same k4) (x1.trans (Ex.of_same k4))
    · rw [if_neg (fun z => c (of_decide_eq_true z))]
      refine ⟨by rw [sizeLine_eq]; first | decide | simp, fun D nD => ?_⟩
      generalize hg : upd _ D _ = G4
      have t4 := sameOf nD hg
      have e4 := atOf hg
      clear hg
      exact q D [] [] G4 e4 (fr (Same.refl _) nD) .nil (fun a ha => by simp at ha) (by simp) (hp1.same t4) (x1.trans (Ex.of_same t4))

def spLaw (K : Frag) : Sp := fun vs H Q _ => ∃ (a : Addr) (ns : List Int), vs = [.ref a] ∧ SqL K H a (ns.map V.int) ∧ ns.length ≤ 63 ∧ (∀ z ∈ ns, Builtin.Int.intBits z ≤ 1048576) ∧ (∀ p ∈ tf.map (cTA K), H p.2 = some (.tbl #[])) ∧ ∀ H', Q (.bl true) H'
abbrev sp_law := spLaw
theorem sc_law : FnScope ["_law_script", "_law_points_here", "_law_k", "_law_pool", "_law_low", "_law_arc", "_law_marks", "_law_parts", "_law_point", "_law_at", "_law_turn", "_law_some", "_law_kept", "_law_one"] ["_law_script"] (defScope s_law) := ⟨rfl, rfl, rfl, by decide +kernel, rfl, by decide +kernel, by decide +kernel⟩
theorem ok_law {P : Program} {w : World} {K : Frag} {mg : Str → Option Value} (T : Txt K mg) : LawOkT P w K mg (tf.map (cTA K)) 9 (glA "law" K) (sp_law K) := by
  refine okLawT (N := ["_law_script", "_law_points_here", "_law_k", "_law_pool", "_law_low", "_law_arc", "_law_marks", "_law_parts", "_law_point", "_law_at", "_law_turn", "_law_some", "_law_kept", "_law_one"]) (k := 8) (d := g_law) T.d_law rfl sc_law (fun _ _ _ _ _ _ us hl => match us, hl with | [_], _ => rfl) (fun base tb A outer s H vs Q E hr h => ?_)
  · have hu := hr.hu
    obtain ⟨a, ns, rfl, hS, hlen, hbits, htab, q⟩ := h
    refine ⟨_, PSs.nox ((pss_cons (ps_set (i := 1) sc_law.nd rfl (Or.inr rfl) (pe_cF (ok__law_points (K := K) T) hr T.m__law_points passL (pa_cons pe_int pa_nil)))
      (pss_cons (ps_for PassesOwn.never rfl (pi_range1 (by rfl) T.b_range (pa_cons (pe_callB (call_max2 rfl) (by rfl) T.b_max (by decide +kernel) (pa_cons pe_int (pa_cons (pe_callB (call_min2 rfl) (by rfl) T.b_min (by decide +kernel) (pa_cons (pe_callB call_len_seq (by rfl) T.b_len (by decide +kernel) (pa_cons (pv 0) pa_nil)) (pa_cons pe_int pa_nil))) pa_nil))) pa_nil)) (pg_name (i := 2) sc_law.nd rfl (Or.inl rfl))
        (pss_cons (ps_set (i := 3) sc_law.nd rfl (Or.inr rfl) (pe_cF (ok__law_hand (K := K) T) hr T.m__law_hand passL (pa_cons (pv 0) (pa_cons (pv 2) pa_nil))))
        (pss_cons (ps_set (i := 4) sc_law.nd rfl (Or.inl rfl) (pe_cF (ok__law_draw (K := K) T) hr T.m__law_draw passL (pa_cons (pv 3) (pa_cons pe_int pa_nil))))
        (pss_cons (ps_set (i := 5) sc_law.nd rfl (Or.inl rfl) (pe_mkF T.k_Arc (ok_Arc_init (K := K) T) hr T.m_Arc passL (pa_cons (pe_ix ix_list (pv 1) (pv 4) (fun _ _ => rfl)) (pa_cons (pe_ix ix_list (pv 1) (pe_op op_add (pe_op op_add (pv 4) pe_int) (pe_cF (ok__law_draw (K := K) T) hr T.m__law_draw passL (pa_cons (pv 3) (pa_cons pe_int pa_nil)))) (fun _ _ => rfl)) pa_nil))))
        (pss_cons (ps_setLc (i := 6) (own := [("_law_turn", 10)]) (g := gName 10) rfl sc_law.nd rfl rfl (sw_true rfl rfl rfl (by decide +kernel)) (pi_range1 (by rfl) T.b_range (pa_cons pe_int pa_nil)) (blkOk_by (N := ["_law_script", "_law_points_here", "_law_k", "_law_pool", "_law_low", "_law_arc", "_law_marks", "_law_parts", "_law_point", "_law_at", "_law_turn", "_law_some", "_law_kept", "_law_one"]) (sc := defScope s_law) (by decide +kernel)) (fun _ _ _ _ _ => pg_name (i := 10) sc_law.nd rfl (Or.inl rfl)) (fun _ _ _ _ _ => pts_nil) (fun _ _ _ _ _ => (pe_ix (ix_list : IxR _ (rIxL K)) (pv 1) (pe_cF (ok__law_draw (K := K) T) hr T.m__law_draw passL (pa_cons (pv 3) (pa_cons pe_int pa_nil))) (fun _ _ => rfl))))
        (pss_cons (ps_set (i := 7) sc_law.nd rfl (Or.inl rfl) (pe_mtV (pv 5) T.c_Arc T.e_Arc_split (ok_Arc_split (K := K) T) hr passL (pa_cons (pe_ix ix_list (pv 6) pe_int (fun _ _ => rfl)) (pa_cons (pe_ix ix_list (pv 6) pe_int (fun _ _ => rfl)) (pa_cons (pe_ix ix_list (pv 6) pe_int (fun _ _ => rfl)) (pa_cons (pe_ix ix_list (pv 6) pe_int (fun _ _ => rfl)) pa_nil))))))
        (pss_cons (ps_for PassesOwn.never rfl (pi_list (pv 1)) (pg_name (i := 8) sc_law.nd rfl (Or.inr rfl))
          (pss_one (ps_if (pt_cmpR op_ne (pe_callB call_len_seq (by rfl) T.b_len (by decide +kernel) (pa_cons (pe_lc (own := [("_law_one", 13)]) (g := gName 13) rfl sc_law.nd (pi_list (pv 7)) (blkOk_by (N := ["_law_script", "_law_points_here", "_law_k", "_law_pool", "_law_low", "_law_arc", "_law_marks", "_law_parts", "_law_point", "_law_at", "_law_turn", "_law_some", "_law_kept", "_law_one"]) (sc := defScope s_law) (by decide +kernel)) (fun _ _ _ _ _ => pg_name (i := 13) sc_law.nd rfl (Or.inl rfl)) (fun _ _ _ _ _ => (pts_one (pt_cmpR (op_inO T.e_Arc_contains (ok_Arc_contains (K := K) T) hr passL) (pv 8) (pv 13) (by rfl)))) (fun _ _ _ _ _ => (pv 13))) pa_nil)) (pe_callTy call_int1 (by rfl) T.b_int (by decide +kernel) (pa_cons (pe_cmpR (op_inO T.e_Arc_contains (ok_Arc_contains (K := K) T) hr passL) (pv 8) (pv 5) (by rfl)) pa_nil)) (nomark _))
            (pss_one (ps_ret pe_bl))
            pss_nil)))
        (pss_cons (ps_for PassesOwn.never rfl (pi_range1 (by rfl) T.b_range (pa_cons (pe_op op_sub (pe_callB call_len_seq (by rfl) T.b_len (by decide +kernel) (pa_cons (pv 7) pa_nil)) pe_int) pa_nil)) (pg_name (i := 9) sc_law.nd rfl (Or.inl rfl))
          (pss_one (ps_if (PW.pt (pw_or (pt_cmpR (op_neD (hu64 hr)) (pe_prF (pe_ix ix_list (pv 7) (pv 9) (fun _ _ => rfl)) T.c_Arc T.p_Arc_end (ok_Arc_end (K := K) T) hr passL) (pe_prF (pe_ix ix_list (pv 7) (pe_op op_add (pv 9) pe_int) (fun _ _ => rfl)) T.c_Arc T.p_Arc_start (ok_Arc_start (K := K) T) hr passL) (nomark _)) (pw_or1 (pt_cmpR op_notN (pe_op (op_andO T.e_Arc_and T.a_Arc (ok_Arc_and (K := K) T) hr passL) (pe_ix ix_list (pv 7) (pv 9) (fun _ _ => rfl)) (pe_ix ix_list (pv 7) (pe_op op_add (pv 9) pe_int) (fun _ _ => rfl))) pe_non (nomark _)))))
            (pss_one (ps_ret pe_bl))
            pss_nil)))
        (pss_cons (ps_if (PW.pt (pw_or (pt_cmpR op_notN (pe_cF (ok_tiling_fault (K := K) T) hr T.m_tiling_fault passL (pa_cons (pv 5) (pa_cons (pv 7) pa_nil))) pe_non (nomark _)) (pw_or1 (pt_cmpR op_notN (pe_cF (ok_tiling_fault (K := K) T) hr T.m_tiling_fault passL (pa_cons (pv 5) (pa_cons (pe_revL (pv 7)) pa_nil))) pe_non (nomark _)))))
          (pss_one (ps_ret pe_bl))
          pss_nil)
        (pss_one (ps_for PassesOwn.never rfl (pi_range1 (by rfl) T.b_range (pa_cons pe_int pa_nil)) (pg_name (i := 10) sc_law.nd rfl (Or.inl rfl))
          (pss_cons (ps_set (i := 11) sc_law.nd rfl (Or.inl rfl) (pe_cF (ok__law_bent (K := K) T) hr T.m__law_bent passL (pa_cons (pv 3) (pa_cons (pv 7) (pa_cons (pv 1) pa_nil)))))
          (pss_cons (ps_set (i := 12) sc_law.nd rfl (Or.inl rfl) (pe_callTy call_list_of (by rfl) T.b_list (by decide +kernel) (pa_cons (pv 11) pa_nil)))
          (pss_one (ps_if (PW.pt (pw_or (pt_cmpR (op_neD (hu64 hr)) (pe_cF (ok_tiling_fault (K := K) T) hr T.m_tiling_fault passL (pa_cons (pv 5) (pa_cons (pv 11) pa_nil))) (pe_cF (ok__law_fault (K := K) T) hr T.m__law_fault passL (pa_cons (pv 5) (pa_cons (pv 11) (pa_cons (pv 1) pa_nil)))) (nomark _)) (pw_or1 (pt_cmpR (op_neSame hr) (pv 11) (pv 12) (nomark _)))))
            (pss_one (ps_ret pe_bl))
            pss_nil)))))))))))))))
      (pss_one (ps_ret pe_bl))))), ?_⟩
    refine seq_gen (fun σ' H' => ∃ L as, σ' = [some (.ref a), some (.ref L), none, none, none, none, none, none, none, none, none, none, none, none] ∧ Same H H' ∧ H' L = some (.lst (as.map V.ref)) ∧ PtsAt H' as PTS) (fun N hN => ?_) ?_
    · walk_at "nm"
      exact ⟨rfl, fun H1 L as s1 n1 h1 hp => hN _ _ ⟨L, as, rfl, s1, h1, hp⟩⟩
    rintro σ' H1 ⟨L, as, rfl, z1, hL, hps⟩
    have lps : as.length = 25 := by rw [hps.len, ptsTo_len]
    refine seq_gen (fun _ _ => True) (fun N hN => ?_) (fun σ' H' _ => q H')
    walk_at "nm"
    refine ⟨_, rfl, a, rfl, _, .inl (seqN hS (LamX.ExtN.of z1)), _, _, rfl, _, _, rfl, _, rfl, ?_, ?_, for_range (fun i σ H' => (∃ v2 v3 v4 v5 v6 v7 v8 v9 v10 v11 v12 v13, σ = [some (.ref a), some (.ref L), v2, v3, v4, v5, v6, v7, v8, v9, v10, v11, v12, v13]) ∧ Same H1 H') ⟨⟨_, _, _, _, _, _, _, _, _, _, _, _, rfl⟩, Same.refl _⟩ ?_ ?_⟩
    · split <;> split <;> omega
    · split <;> split <;> omega
    · rintro i σ H2 hi ⟨⟨v2, v3, v4, v5, v6, v7, v8, v9, v10, v11, v12, v13, rfl⟩, e2⟩
      have hi16 : i < 16 := by
        rw [List.length_map] at hi
        split at hi <;> split at hi <;> omega
      dsimp only [gName]
      simp only [List.set_cons_succ, List.set_cons_zero]
      generalize hk : some (V.int (0 + (i : Int))) = vk
      -- the pool
      refine seq_gen (fun σ' H' => ∃ pl, σ' = [some (.ref a), some (.ref L), vk, some (.ref pl), v4, v5, v6, v7, v8, v9, v10, v11, v12, v13] ∧ Same H1 H' ∧ PoolAt H' pl ∧ H1 pl = none) (fun N2 hN2 => ?_) ?_
      · subst hk
        walk_at "nm"
        refine ⟨a, ns, _, rfl, seqN hS (LamX.ExtN.of (z1.trans e2)), by omega, ⟨by omega, by omega⟩, fun H3 pl s3 npl hp3 => hN2 _ _ ⟨pl, rfl, e2.trans s3, hp3, e2.free npl⟩⟩
      rintro σ' H3 ⟨pl, rfl, e3, hp3, npl⟩
      have draw : ∀ {G G' : Hp}, Same H1 G → Ex pl G G' → Same H1 G' := fun e x c o h => x c o (ne_of_none h npl) (e c o h)
      -- low
      refine seq_gen (fun σ' H' => ∃ low : Int, σ' = [some (.ref a), some (.ref L), vk, some (.ref pl), some (.int low), v5, v6, v7, v8, v9, v10, v11, v12, v13] ∧ 0 ≤ low ∧ low < 12 ∧ Same H1 H' ∧ PoolAt H' pl) (fun N2 hN2 => ?_) ?_
      · walk_at "nm"
        exact ⟨pl, 12, rfl, hp3, by decide, by decide, fun w G w0 w1 hp x => hN2 _ _ ⟨w, rfl, w0, w1, draw e3 x, hp⟩⟩
      clear hp3 e3
      rintro σ' H3 ⟨low, rfl, l0, l1, e3, hp3⟩
      -- the arc
      refine seq_gen (fun σ' H' => ∃ x p r, σ' = [some (.ref a), some (.ref L), vk, some (.ref pl), some (.int low), some (.ref x), v6, v7, v8, v9, v10, v11, v12, v13] ∧ Same H1 H' ∧ PoolAt H' pl ∧ ArcG K H' x p r ∧ p ∈ PTS ∧ r ∈ PTS) (fun N2 hN2 => ?_) ?_
      · walk_at "nm"
        obtain ⟨lo, rfl⟩ : ∃ i : Nat, low = i := ⟨low.toNat, by omega⟩
        have hL3 := e3 _ _ hL
        have hps3 := hps.tk (.same e3)
        obtain ⟨u, hu⟩ : ∃ u, PTS[lo]? = some u := ⟨_, List.getElem?_eq_getElem (by rw [ptsTo_len]; omega)⟩
        obtain ⟨ua, hua, kua⟩ := pts_at2 hps3 hu
        have nL : L ≠ pl := ne_of_none hL npl
        refine ⟨_, rfl, _, rfl, ixL (SqL.of hL3) (atI_nat (by rw [List.getElem?_map, hua]; rfl)) ⟨_, rfl, _, rfl, _, _, rfl, rfl, _, rfl, pl, 12, rfl, hp3, by decide, by decide, fun w G w0 w1 hp x => ⟨_, _, rfl, rfl, ?_⟩⟩⟩
        obtain ⟨hi, ehi⟩ : ∃ i : Nat, (lo : Int) + 1 + w = i := ⟨((lo : Int) + 1 + w).toNat, by omega⟩
        dsimp only
        rw [ehi]
        obtain ⟨v, hv⟩ : ∃ v, PTS[hi]? = some v := ⟨_, List.getElem?_eq_getElem (by rw [ptsTo_len]; omega)⟩
        have eG := draw e3 x
        have hpsG := pts_ex hp3 x hps3
        obtain ⟨va, hva, kva⟩ := pts_at2 hpsG hv
        have kuaG := x _ _ (hp3.pt_ne kua) kua
        have ulv : ptLt u v = true := by
          obtain ⟨h1, rfl⟩ := List.getElem?_eq_some_iff.mp hu
          obtain ⟨h2, rfl⟩ := List.getElem?_eq_some_iff.mp hv
          exact List.pairwise_iff_getElem.mp srtPTS lo hi h1 h2 (by omega)
        have um := List.mem_of_getElem? hu
        have vm := List.mem_of_getElem? hv
        refine ixL (SqL.of (eG _ _ hL)) (atI_nat (by rw [List.getElem?_map, hva]; rfl)) ?_
        have z : tMake (ga K "Arc") (sp_Arc_init K) [] E0 (fun σ H Q => Q [V.ref ua, V.ref va] H) [] G (fun x H1 => N2 [some (.ref a), some (.ref L), vk, some (.ref pl), some (.int lo), some x, v6, v7, v8, v9, v10, v11, v12, v13] H1) :=
          mkArc kuaG kva (gpPTS u um) (gpPTS v vm) ulv (fun Q' q' => q') fun G2 y t2 ny hy => hN2 _ _ ⟨y, u, v, rfl, eG.trans t2, hp.same t2, hy, um, vm⟩
        exact z
      clear hp3 e3
      rintro σ' H3 ⟨x, p, r, rfl, e3, hp3, hx, pm, rm⟩
      have lt := hx.lt
      -- marks
      refine seq_gen (fun σ' H' => ∃ M m1 m2 m3 m4 ms w10, σ' = [some (.ref a), some (.ref L), vk, some (.ref pl), some (.int low), some (.ref x), some (.ref M), v7, v8, v9, w10, v11, v12, v13] ∧ Same H1 H' ∧ PoolAt H' pl ∧ ArcG K H' x p r ∧ H' M = some (.lst [.ref m1, .ref m2, .ref m3, .ref m4]) ∧ PtsAt H' [m1, m2, m3, m4] ms ∧ ∀ s ∈ ms, s ∈ PTS) (fun N2 hN2 => ?_) ?_
      · walk_at "nm"
        refine ⟨4, rfl, by decide, by decide, fun D nD => ?_⟩
        have nD1 : H1 D = none := e3.free nD
        have nDp : D ≠ pl := hp3.ne nD
        refine lc_it walk_range (fun j H2 => Same H1 H2 ∧ PoolAt H2 pl ∧ ArcG K H2 x p r ∧ ∃ (as : List Addr) (ms : List Pt), H2 D = some (.lst (as.map V.ref)) ∧ as.length = j ∧ PtsAt H2 as ms ∧ ∀ s ∈ ms, s ∈ PTS) ?_ (fun _ _ _ _ => trivial) ?_ ?_
        · have sD : Same H3 (upd H3 D (.lst [])) := Same.upd (Same.refl _) nD
          exact ⟨e3.trans sD, hp3.same sD, hx.same sD, [], [], upd_same, rfl, .nil, fun s hs => by cases hs⟩
        · rintro j y H7 H8 hj ⟨e7, hp7, hx7, bs, ms, hD, hl, hms, hg⟩ ⟨rfl, rfl⟩
          refine ⟨rfl, ?_⟩
          dsimp only [tYes]
          rw [if_pos rfl]
          refine ⟨_, rfl, _, rfl, pl, 25, rfl, hp7, by decide, by decide, fun w G w0 w1 hp x9 => ?_⟩
          obtain ⟨i', rfl⟩ : ∃ i : Nat, w = i := ⟨w.toNat, by omega⟩
          have eG := draw e7 x9
          obtain ⟨u, hu⟩ : ∃ u, PTS[i']? = some u := ⟨_, List.getElem?_eq_getElem (by rw [ptsTo_len]; omega)⟩
          obtain ⟨ua, hua, kua⟩ := pts_at2 (hps.tk (.same eG)) hu
          refine ixL (SqL.of (eG _ _ hL)) (atI_nat (by rw [List.getElem?_map, hua]; rfl)) ?_
          have hD9 := x9 _ _ nDp hD
          have tk : Tk G (upd G D (.lst (bs.map V.ref ++ [.ref ua]))) := Tk.upd hD9 (fun xs z => by cases z)
          have sm : ∀ {b : Addr} {o : HO}, G b = some o → (∀ xs, o ≠ .lst xs) → upd G D (.lst (bs.map V.ref ++ [.ref ua])) b = some o := fun {b o} h1 h2 => by
            rw [upd_ne (fun z => by subst z; rw [hD9] at h1; cases h1; exact h2 _ rfl)]
            exact h1
          refine ⟨_, hD9, (by rw [List.length_map, sizeLine_eq]; omega), fun b o h => ?_, ?_, ?_, bs ++ [ua], ms ++ [u], ?_, ?_, ?_, ?_⟩
          · rw [upd_ne (ne_of_none h nD1)]
            exact eG b o h
          · obtain ⟨i, j, e⟩ := hp
            exact ⟨i, j, by rw [upd_ne nDp.symm]; exact e⟩
          · obtain ⟨⟨dx, u1, u2, h1, h2, h3⟩, g1, g2, lt'⟩ := arc_ex hp7 x9 hx7
            exact ⟨⟨dx, u1, u2, sm h1 (fun _ z => by cases z), sm h2 (fun _ z => by cases z), sm h3 (fun _ z => by cases z)⟩, g1, g2, lt'⟩
          · rw [upd_same, List.map_append]
            rfl
          · rw [List.length_append, hl]
            rfl
          · exact ((pts_ex hp7 x9 hms).tk tk).app (.cons (tk _ _ kua) .nil)
          · intro s hs
            rcases List.mem_append.mp hs with hs | hs
            · exact hg s hs
            · rw [List.mem_singleton] at hs
              subst hs
              exact List.mem_of_getElem? hu
        · rintro H7 ⟨e7, hp7, hx7, bs, ms, hD, hl, hms, hg⟩
          match bs, hl with
          | [m1, m2, m3, m4], _ => exact hN2 _ _ ⟨D, m1, m2, m3, m4, ms, _, rfl, e7, hp7, hx7, hD, hms, hg⟩
      clear hp3 e3 hx
      rintro σ' H3 ⟨M, m1, m2, m3, m4, ms, w10, rfl, e3, hp3, hx, hM, hms, hmp⟩
      have l4 : ms.length = 4 := hms.len.symm
      -- parts
      refine seq_gen (fun σ' H' => ∃ l xs es, σ' = [some (.ref a), some (.ref L), vk, some (.ref pl), some (.int low), some (.ref x), some (.ref M), some (.ref l), v8, v9, w10, v11, v12, v13] ∧ Same H1 H' ∧ PoolAt H' pl ∧ ArcG K H' x p r ∧ H' l = some (.lst (xs.map V.ref)) ∧ ArcsAt K H' xs es ∧ Ends p r ms es ∧ l ≠ pl) (fun N2 hN2 => ?_) ?_
      · walk_at "nm"
        obtain ⟨dx, fx, ex⟩ := hx.ins
        have hga : ∀ s ∈ ms, GP s := fun s hs => gpPTS s (hmp s hs)
        have lms := hms.len
        obtain ⟨⟨dx, xu, xv, ex, _⟩, _⟩ := id hx
        refine ⟨_, rfl, x, dx, _, rfl, ex, (by rw [lookS (by decide +kernel), lookS (by decide +kernel)]; rfl), ⟨_, rfl, ?_⟩⟩
        dsimp only [tC]
        refine ixL (i := 0) (SqL.of hM) (v := .ref m1) rfl ⟨_, rfl, ?_⟩
        dsimp only [tC]
        refine ixL (i := 1) (SqL.of hM) (v := .ref m2) rfl ⟨_, rfl, ?_⟩
        dsimp only [tC]
        refine ixL (i := 2) (SqL.of hM) (v := .ref m3) rfl ⟨_, rfl, ?_⟩
        dsimp only [tC]
        refine ixL (i := 3) (SqL.of hM) (v := .ref m4) rfl ?_
        refine ⟨_, _, rfl, (by rw [sizeLine_eq]; simp), ?_⟩
        intro t nt
        generalize hg : upd _ t _ = G4
        have t4 := sameOf nt hg
        have e4 := atOf hg
        clear hg
        refine ⟨x, t, [m1, m2, m3, m4], ms, p, r, rfl, hx.same t4, e4, hms.tk (.same t4), hga, by rw [← lms]; simp, fun H5 D xs5 es5 s5 n5 h5 he5 ha5 => ?_⟩
        have k5 := t4.trans s5
        exact hN2 _ _ ⟨D, xs5, es5, rfl, e3.trans k5, hp3.same k5, hx.same k5, h5, ha5, he5, (hp3.same t4).ne n5⟩
      clear hp3 e3 hx hM hms
      rintro σ' H3 ⟨l, xs, es, rfl, e3, hp3, hx, hl, has, hen, nl⟩
      have hal := has.arcsIn
      have hee := hen.endsIn lt pm rm hmp
      have hcn := hen.cnt lt
      have lxe : xs.length = (pairs es).length := hal.len
      have lee : es.length ≤ 6 := by
        have := hen.few
        omega
      have lpe : (pairs es).length ≤ 5 := by rw [pairs_len]; omega
      have lpe1 : 1 ≤ (pairs es).length := by
        obtain ⟨qs, rfl, _⟩ := hen
        rw [pairs_len]
        simp
      -- every point lies in one part
      refine seq_gen (fun σ' H' => ∃ w8 w13, σ' = [some (.ref a), some (.ref L), vk, some (.ref pl), some (.int low), some (.ref x), some (.ref M), some (.ref l), w8, v9, w10, v11, v12, w13] ∧ Same H3 H') (fun N2 hN2 => ?_) ?_
      · refine ⟨_, rfl, L, rfl, ⟨_, SqL.of (e3 _ _ hL)⟩, for_list (K := K) (a := L) (xs := as.map V.ref) (fun j σ' H' => (∃ w8 w13, σ' = [some (.ref a), some (.ref L), vk, some (.ref pl), some (.int low), some (.ref x), some (.ref M), some (.ref l), w8, v9, w10, v11, v12, w13]) ∧ Same H3 H') ⟨⟨_, _, rfl⟩, Same.refl _⟩ (fun j σ' H' _ p => SqL.of (p.2 _ _ (e3 _ _ hL))) ?_ ?_⟩
        · rintro j y σ' H4 hj ⟨⟨w8, w13, rfl⟩, s4⟩
          obtain ⟨b, hbj, rfl⟩ := get_ref hj
          have k4 := e3.trans s4
          obtain ⟨s', hs', hat⟩ := (hps.tk (.same k4)).at hbj
          have gs := gpPTS s' (List.mem_of_getElem? hs')
          walk_at "nm"
          refine lc_count (cs := (pairs es).map fun a => inArc a.1 a.2 s') (s4 _ _ hl) (by simp [lxe]) (by rw [List.length_map]; omega) (fun Q' q' => ⟨_, rfl, q'⟩) (fun n y b G Q' hy hb sG q' => ?_) (fun y G Q' q' => ⟨_, rfl, q'⟩) (fun y => rfl) fun H5 D5 ys s5 nD5 hD5 hlen5 => ?_
          · obtain ⟨y', hy', rfl⟩ := get_ref hy
            obtain ⟨e, ee, hg⟩ := (hal.same (s4.trans sG)).at hy'
            rw [List.getElem?_map, ee] at hb
            cases hb
            exact ⟨_, rfl, _, rfl, in_arc hg gs (hat.same sG) fun G' sG' => ⟨_, rfl, q' G' sG'⟩⟩
          refine ⟨D5, rfl, ys, .inl (SqL.of hD5), in_arc (hx.same (s4.trans s5)) gs (hat.same s5) fun H6 s6 => .inr ⟨_, rfl, rfl, _, rfl, ?_⟩⟩
          rw [show ys.length = cnt (pairs es) s' from hlen5, hcn s', if_neg (by cases inArc p r s' <;> decide)]
          exact ⟨⟨_, rfl⟩, s4.trans (s5.trans s6)⟩
        · rintro σ' H4 ⟨⟨w8, w13, rfl⟩, s4⟩
          exact hN2 _ _ ⟨_, _, rfl, s4⟩
      rintro σ' H4 ⟨w8, w13, rfl, s4⟩
      -- neighbours
      refine seq_gen (fun σ' H' => ∃ w9, σ' = [some (.ref a), some (.ref L), vk, some (.ref pl), some (.int low), some (.ref x), some (.ref M), some (.ref l), w8, w9, w10, v11, v12, w13] ∧ Same H3 H') (fun N2 hN2 => ?_) ?_
      · refine ⟨_, rfl, l, rfl, _, .inl (SqL.of (s4 _ _ hl)), _, _, rfl, rfl, _, rfl, by rw [List.length_map]; omega, by rw [List.length_map]; omega, for_it walk_range (fun j σ' H' => (∃ w9, σ' = [some (.ref a), some (.ref L), vk, some (.ref pl), some (.int low), some (.ref x), some (.ref M), some (.ref l), w8, w9, w10, v11, v12, w13]) ∧ Same H3 H') ⟨⟨_, rfl⟩, s4⟩ (fun _ _ _ _ _ => trivial) ?_ ?_⟩
        · rintro j y σ' H5 H6 hj ⟨⟨w9, rfl⟩, s5⟩ ⟨rfl, rfl⟩
          rw [List.length_map] at hj
          walk_at "nm"
          have j1 : j + 1 < xs.length := by omega
          have j0 : j < xs.length := by omega
          have hle := has.len
          have f1 := (has.arc j xs[j] es[j] es[j + 1] (List.getElem?_eq_getElem j0) (List.getElem?_eq_getElem (by omega)) (List.getElem?_eq_getElem (by omega))).same s5
          have f2 := (has.arc (j + 1) xs[j + 1] es[j + 1] es[j + 1 + 1] (List.getElem?_eq_getElem j1) (List.getElem?_eq_getElem (by omega)) (List.getElem?_eq_getElem (by omega))).same s5
          have i1 : atI (xs.map V.ref) (0 + (j : Int)) = some (.ref xs[j]) := by
            rw [Int.zero_add]
            exact atI_nat (by rw [List.getElem?_map, List.getElem?_eq_getElem j0]; rfl)
          have i2 : atI (xs.map V.ref) (0 + (j : Int) + 1) = some (.ref xs[j + 1]) := by
            rw [Int.zero_add, show ((j : Int) + 1) = ((j + 1 : Nat) : Int) by omega]
            exact atI_nat (by rw [List.getElem?_map, List.getElem?_eq_getElem j1]; rfl)
          generalize xs[j] = y1 at f1 i1
          generalize xs[j + 1] = y2 at f2 i2
          generalize es[j] = u at f1
          generalize es[j + 1] = v at f1 f2
          generalize es[j + 1 + 1] = w at f2
          obtain ⟨⟨dx, ua, va, h1, h2, h3⟩, g1, g2, lt1⟩ := id f1
          obtain ⟨⟨dy, ub, vb, k1, k2, k3⟩, _, _, lt2⟩ := id f2
          have sl := SqL.of (K := K) (s5 _ _ hl)
          refine ⟨_, rfl, _, rfl, ixL sl i1 ⟨y1, dx, _, rfl, h1, y1, dx, ua, va, rfl, h1, ?_⟩⟩
          refine ⟨_, rfl, _, rfl, _, _, rfl, rfl, ixL sl i2 ⟨y2, dy, _, rfl, k1, y2, dy, ub, vb, rfl, k1, ?_⟩⟩
          refine neD_same (ptD v) h3.dp k2.dp g2.shaped ⟨_, rfl, ?_⟩
          rw [if_neg (by decide)]
          refine ixL sl i1 (ixL sl i2 ⟨y1, dx, _, y2, dy, _, rfl, rfl, h1, k1, y1, y2, u, v, v, w, rfl, f1, f2, fun vv G sG hm => ?_⟩)
          rcases hm with ⟨_, rfl⟩ | ⟨hm, _⟩
          · rw [if_neg (by simp)]
            exact ⟨⟨_, rfl⟩, s5.trans sG⟩
          · have e1 : ptMax u v = v := if_pos lt1
            have e2 : ptMin v w = v := by
              unfold ptMin
              rw [ptLt_asymm lt2]
              rfl
            rw [e1, e2, ptLt_irrefl] at hm
            cases hm
        · rintro σ' H5 ⟨⟨w9, rfl⟩, s5⟩
          exact hN2 _ _ ⟨_, rfl, s5⟩
      clear s4
      rintro σ' H4 ⟨w9, rfl, s4⟩
      -- no fault
      refine seq_gen (fun σ' H' => σ' = [some (.ref a), some (.ref L), vk, some (.ref pl), some (.int low), some (.ref x), some (.ref M), some (.ref l), w8, w9, w10, v11, v12, w13] ∧ Same H3 H') (fun N2 hN2 => ?_) ?_
      · walk_at "nm"
        refine ⟨x, l, xs, p, r, pairs es, rfl, hx.same s4, s4 _ _ hl, hal.same s4, by omega, fun v H5 qs s5 hsq hmq hf => ?_⟩
        rw [ff_none fun s _ => fault_none (hcn s)] at hf
        cases hf
        rw [if_neg (by simp)]
        have k5 := s4.trans s5
        refine ⟨_, rfl, l, _, rfl, SqL.of (k5 _ _ hl), ?_⟩
        intro R nR
        generalize hg : upd _ R _ = G6
        have t6 := sameOf nR hg
        have e6 := atOf hg
        clear hg
        have k6 := k5.trans t6
        refine ⟨x, R, xs.reverse, p, r, (pairs es).reverse, rfl, hx.same k6, by rw [e6, List.map_reverse], (hal.same k6).rev, by rw [List.length_reverse]; omega, fun v H7 qs s7 hsq hmq hf => ?_⟩
        rw [ff_none fun s _ => fault_none (by rw [cnt_rev]; exact hcn s)] at hf
        cases hf
        rw [if_neg (by simp)]
        exact hN2 _ _ ⟨rfl, k6.trans s7⟩
      clear s4
      rintro σ' H4 ⟨rfl, s4⟩
      refine ⟨5, rfl, by decide, by decide, for_it walk_range (fun j σ' H' => (∃ w10 v11 v12, σ' = [some (.ref a), some (.ref L), vk, some (.ref pl), some (.int low), some (.ref x), some (.ref M), some (.ref l), w8, w9, w10, v11, v12, w13]) ∧ Same H1 H' ∧ PoolAt H' pl ∧ ArcG K H' x p r ∧ H' l = some (.lst (xs.map V.ref)) ∧ ArcsIn K H' xs (pairs es)) ⟨⟨_, _, _, rfl⟩, e3.trans s4, hp3.same s4, hx.same s4, s4 _ _ hl, hal.same s4⟩ (fun _ _ _ _ _ => trivial) ?_ ?_⟩
      · rintro j y σ' H5 H6 hj ⟨⟨w10, v11, v12, rfl⟩, e5, hp5, hx5, hl5, ha5⟩ ⟨rfl, rfl⟩
        have nL : L ≠ pl := ne_of_none hL npl
        refine seq_gen (fun σ' H' => ∃ D xs' ar' w10', σ' = [some (.ref a), some (.ref L), vk, some (.ref pl), some (.int low), some (.ref x), some (.ref M), some (.ref l), w8, w9, w10', some (.ref D), v12, w13] ∧ Same H1 H' ∧ PoolAt H' pl ∧ ArcG K H' x p r ∧ H' l = some (.lst (xs.map V.ref)) ∧ ArcsIn K H' xs (pairs es) ∧ H' D = some (.lst (xs'.map V.ref)) ∧ ArcsIn K H' xs' ar' ∧ EndsIn PTS ar' ∧ ar'.length ≤ 101) (fun N2 hN2 => ?_) ?_
        · walk_at "nm"
          exact ⟨pl, l, L, xs, as, pairs es, rfl, hp5, hl5, ha5, lpe1, by omega, hee, nl, nL, e5 _ _ hL, hps.tk (.same e5), fun D xs' ar' G hD nD ha' he' few' hpG x9 => hN2 _ _ ⟨D, xs', ar', _, rfl, draw e5 x9, hpG, arc_ex hp5 x9 hx5, x9 _ _ nl hl5, arcs_ex hp5 x9 ha5, hD, ha', he', few'⟩⟩
        clear e5 hp5 hx5 hl5 ha5
        rintro σ' H7 ⟨D, xs', ar', w10', rfl, e7, hp7, hx7, hl7, ha7, hD, ha', he', few'⟩
        refine seq_gen (fun σ' H' => ∃ D2, σ' = [some (.ref a), some (.ref L), vk, some (.ref pl), some (.int low), some (.ref x), some (.ref M), some (.ref l), w8, w9, w10', some (.ref D), some (.ref D2), w13] ∧ Same H7 H' ∧ H' D2 = some (.lst (xs'.map V.ref))) (fun N2 hN2 => ?_) ?_
        · walk_at "nm"
          refine ⟨_, .inl (SqL.of hD), ?_⟩
          intro D2 nD2
          generalize hg : upd _ D2 _ = G8
          have t8 := sameOf nD2 hg
          have e8 := atOf hg
          clear hg
          exact hN2 _ _ ⟨D2, rfl, t8, e8⟩
        rintro σ' H8 ⟨D2, rfl, s8, hD2⟩
        walk_at "nm"
        refine ⟨x, D, xs', p, r, ar', rfl, hx7.same s8, s8 _ _ hD, ha'.same s8, by omega, fun v H9 qs s9 hsq hmq hf => ?_⟩
        have k9 := s8.trans s9
        refine ⟨x, D, L, xs', as, p, r, ar', PTS, rfl, hx7.same k9, k9 _ _ hD, ha'.same k9, by omega, (e7.trans k9) _ _ hL, hps.tk (.same (e7.trans k9)), gpPTS, fun v2 H10 s10 hf2 => ?_⟩
        have k10 := k9.trans s10
        rw [fault_same hsq srtPTS hmq (fun a ha => by
          rcases List.mem_cons.mp ha with rfl | ha
          · exact ⟨pm, rm, lt⟩
          · exact he' a ha)] at hf
        refine neFault (hf.same s10) hf2 ⟨_, rfl, ?_⟩
        rw [if_neg (by decide)]
        refine ⟨D, D2, xs', rfl, rfl, k10 _ _ hD, (s9.trans s10) _ _ hD2, _, rfl, ?_⟩
        rw [if_neg (by decide)]
        exact ⟨⟨_, rfl⟩, e7.trans k10, hp7.same k10, hx7.same k10, k10 _ _ hl7, ha7.same k10⟩
      · rintro σ' H5 ⟨⟨w10, v11, v12, rfl⟩, e5, hp5, hx5, hl5, ha5⟩
        exact ⟨⟨_, _, _, _, _, _, _, _, _, _, _, _, rfl⟩, e5⟩
    · rintro σ' H2 _
      exact hN _ _ trivial

theorem law_end {P : Program} {w : World} {K : Frag} {mg : Str → Option Value} (T : Txt K mg) :
    ∃ sp : Sp, (∀ (H : Hp) (a : Addr) (ns : List Int), ns.length ≤ 63 → (∀ z ∈ ns, Builtin.Int.intBits z ≤ 1048576) → (∀ p ∈ tf.map (cTA K), H p.2 = some (.tbl #[])) → SqL K H a (ns.map V.int) → sp [.ref a] H (fun v _ => v = .bl true) fun _ _ _ => False) ∧ LawOkT P w K mg (tf.map (cTA K)) 9 (ga K "law") sp :=
  ⟨sp_law K, fun H a ns hl hb ht hS => ⟨a, ns, rfl, hS, hl, hb, ht, fun _ => rfl⟩, ok_law T⟩

set_option maxHeartbeats 0
def fa0 : List Fa := [.glo "is_integer", .glo "in_range", .glo "is_key", .glo "is_point", .glo "check_point", .glo "split_at", .glo "check_arc", .glo "check_arcs", .glo "tiling_fault", .glo "_law_hand", .glo "_law_draw", .glo "_law_points", .glo "_law_fault", .glo "_law_bent", .glo "law", .glo "InvalidPoint", .glo "InvalidArc", .glo "InvalidArcs", .glo "Arc", .cls "Arc", .mkr "Arc", .noat "Arc" "own_start", .noat "Arc" "own_end", .meth "Arc" "__contains__", .meth "Arc" "__and__", .meth "Arc" "split", .meth "Arc" "__eq__", .meth "Arc" "__repr__", .int "MAX_NUMBER" 4294967296, .int "MAX_LENGTH" 20]
def fa1 : List Fa := [.str "BEHIND" "!", .str "CHARACTERS" "abcdefghijklmnopqrstuvwxyz0123456789", .free "NotImplemented", .free "ValueError", .free "all", .free "bool", .free "enumerate", .free "int", .free "isinstance", .free "len", .free "list", .free "max", .free "min", .free "property", .free "range", .free "sorted", .free "str", .free "tuple"]
def fa : List Fa := fa0 ++ fa1
def fn0 : List DefG := [g_is_integer, g_in_range, g_is_key, g_is_point, g_check_point, g_split_at, g_check_arc, g_check_arcs, g_tiling_fault, g__law_hand, g__law_draw, g__law_points, g__law_fault, g__law_bent, g_law, g_InvalidPoint_init, g_InvalidArc_init, g_InvalidArcs_init, g_Arc_init, g_Arc_start, g_Arc_end, g_Arc_contains, g_Arc_and, g_Arc_split, g_Arc_eq, g_Arc_repr]
def fn : List DefG := fn0
def loose0 : List Str := ["InvalidPoint", "InvalidArc", "InvalidArcs", "MAX_NUMBER", "MAX_LENGTH", "BEHIND", "CHARACTERS", "is_integer", "in_range", "is_key", "is_point", "check_point", "Arc", "split_at", "check_arc", "check_arcs", "tiling_fault", "_law_hand", "_law_draw", "_law_points", "_law_fault", "_law_bent"]
def loose : List Str := loose0
def ex (K : Frag) : Bool := excTB .ve "InvalidPoint" K && (excCB "InvalidPoint" K && (xfB K (ga K "InvalidPoint") && (eqO (PySem.W.findIn K (.ref (ga K "InvalidPoint")) "value") (some none) && (decide (PySem.W.kitOne K (.ref (ga K "InvalidPoint")) (.type "ValueError") = some true) && (excTB .ve "InvalidArc" K && (excCB "InvalidArc" K && (xfB K (ga K "InvalidArc") && (eqO (PySem.W.findIn K (.ref (ga K "InvalidArc")) "first") (some none) && (eqO (PySem.W.findIn K (.ref (ga K "InvalidArc")) "second") (some none) && (decide (PySem.W.kitOne K (.ref (ga K "InvalidArc")) (.type "ValueError") = some true) && (excTB .ve "InvalidArcs" K && (excCB "InvalidArcs" K && (xfB K (ga K "InvalidArcs") && (eqO (PySem.W.findIn K (.ref (ga K "InvalidArcs")) "position") (some none) && (decide (PySem.W.kitOne K (.ref (ga K "InvalidArcs")) (.type "ValueError") = some true) && (propB "Arc" "start" K && (propB "Arc" "end" K && (ownCB "Arc" K && (ownKB "Arc" K && (firstB "Arc" K && (noNeB "Arc" K && (PySem.W.selfFirst K (ga K "Arc") && (true)))))))))))))))))))))))
abbrev R : PySem.W.OpenRow := PySem.W.OpenLaw.row PySem.Challenge.rw_arccursors_k07_whole_arcs_divide_the_lin
abbrev hk : PySem.W.Hook := hookG 7 fa ex fn tf
def ob (s : PySem.W.SharedT) : Ah.AlT := obsGG 7 fa ex fn tf (HandSHeadRun.getT s)
theorem ob_eq (s : PySem.W.SharedT) : ob s = hk.obs s.abs := obsGG_eq (HandSHeadRun.getT_eq s)
theorem run (w : World) : HandSHeadRun.RunEq R (PySem.W.view R.prog [25]) hk ob 20000 loose w := by
  intro os
  kernel_rfl
theorem txt {K : Frag} {h : Heap} {mg : Str → Option Value} (X : K.In h) (G : h.Ns mainGlobals mg) (c : SaysG fa ex fn K) (t : TabF tf h K) : Txt K mg := by
  have m0 := c.more
  unfold ex at m0
  obtain ⟨x0, m1⟩ := ba m0
  obtain ⟨x1, m2⟩ := ba m1
  obtain ⟨x2, m3⟩ := ba m2
  obtain ⟨x3, m4⟩ := ba m3
  obtain ⟨x4, m5⟩ := ba m4
  obtain ⟨x5, m6⟩ := ba m5
  obtain ⟨x6, m7⟩ := ba m6
  obtain ⟨x7, m8⟩ := ba m7
  obtain ⟨x8, m9⟩ := ba m8
  obtain ⟨x9, m10⟩ := ba m9
  obtain ⟨x10, m11⟩ := ba m10
  obtain ⟨x11, m12⟩ := ba m11
  obtain ⟨x12, m13⟩ := ba m12
  obtain ⟨x13, m14⟩ := ba m13
  obtain ⟨x14, m15⟩ := ba m14
  obtain ⟨x15, m16⟩ := ba m15
  obtain ⟨x16, m17⟩ := ba m16
  obtain ⟨x17, m18⟩ := ba m17
  obtain ⟨x18, m19⟩ := ba m18
  obtain ⟨x19, m20⟩ := ba m19
  obtain ⟨x20, m21⟩ := ba m20
  obtain ⟨x21, m22⟩ := ba m21
  obtain ⟨x22, m23⟩ := ba m22
  exact {
    d_is_integer := c.def_ 0,
    d_in_range := c.def_ 1,
    d_is_key := c.def_ 2,
    d_is_point := c.def_ 3,
    d_check_point := c.def_ 4,
    d_split_at := c.def_ 5,
    d_check_arc := c.def_ 6,
    d_check_arcs := c.def_ 7,
    d_tiling_fault := c.def_ 8,
    d__law_hand := c.def_ 9,
    d__law_draw := c.def_ 10,
    d__law_points := c.def_ 11,
    d__law_fault := c.def_ 12,
    d__law_bent := c.def_ 13,
    d_law := c.def_ 14,
    d_InvalidPoint_init := c.def_ 15,
    d_InvalidArc_init := c.def_ 16,
    d_InvalidArcs_init := c.def_ 17,
    d_Arc_init := c.def_ 18,
    d_Arc_start := c.def_ 19,
    d_Arc_end := c.def_ 20,
    d_Arc_contains := c.def_ 21,
    d_Arc_and := c.def_ 22,
    d_Arc_split := c.def_ 23,
    d_Arc_eq := c.def_ 24,
    d_Arc_repr := c.def_ 25,
    m_is_integer := glo_ok X G (c.fact 0 (f := .glo "is_integer")),
    m_in_range := glo_ok X G (c.fact 1 (f := .glo "in_range")),
    m_is_key := glo_ok X G (c.fact 2 (f := .glo "is_key")),
    m_is_point := glo_ok X G (c.fact 3 (f := .glo "is_point")),
    m_check_point := glo_ok X G (c.fact 4 (f := .glo "check_point")),
    m_split_at := glo_ok X G (c.fact 5 (f := .glo "split_at")),
    m_check_arc := glo_ok X G (c.fact 6 (f := .glo "check_arc")),
    m_check_arcs := glo_ok X G (c.fact 7 (f := .glo "check_arcs")),
    m_tiling_fault := glo_ok X G (c.fact 8 (f := .glo "tiling_fault")),
    m__law_hand := glo_ok X G (c.fact 9 (f := .glo "_law_hand")),
    m__law_draw := glo_ok X G (c.fact 10 (f := .glo "_law_draw")),
    m__law_points := glo_ok X G (c.fact 11 (f := .glo "_law_points")),
    m__law_fault := glo_ok X G (c.fact 12 (f := .glo "_law_fault")),
    m__law_bent := glo_ok X G (c.fact 13 (f := .glo "_law_bent")),
    m_law := glo_ok X G (c.fact 14 (f := .glo "law")),
    m_InvalidPoint := glo_ok X G (c.fact 15 (f := .glo "InvalidPoint")),
    m_InvalidArc := glo_ok X G (c.fact 16 (f := .glo "InvalidArc")),
    m_InvalidArcs := glo_ok X G (c.fact 17 (f := .glo "InvalidArcs")),
    m_Arc := glo_ok X G (c.fact 18 (f := .glo "Arc")),
    c_Arc := cls_ok (c.fact 19 (f := .cls "Arc")),
    k_Arc := mkr_ok (c.fact 20 (f := .mkr "Arc")),
    n_Arc_own_start := noat_ok (c.fact 21 (f := .noat "Arc" "own_start")),
    n_Arc_own_end := noat_ok (c.fact 22 (f := .noat "Arc" "own_end")),
    e_Arc_contains := meth_ok (c.fact 23 (f := .meth "Arc" "__contains__")),
    e_Arc_and := meth_ok (c.fact 24 (f := .meth "Arc" "__and__")),
    e_Arc_split := meth_ok (c.fact 25 (f := .meth "Arc" "split")),
    e_Arc_eq := meth_ok (c.fact 26 (f := .meth "Arc" "__eq__")),
    e_Arc_repr := meth_ok (c.fact 27 (f := .meth "Arc" "__repr__")),
    v_MAX_NUMBER := int_ok X G (c.fact 28 (f := .int "MAX_NUMBER" 4294967296)),
    v_MAX_LENGTH := int_ok X G (c.fact 29 (f := .int "MAX_LENGTH" 20)),
    v_BEHIND := str_ok X G (c.fact 30 (f := .str "BEHIND" "!")),
    v_CHARACTERS := str_ok X G (c.fact 31 (f := .str "CHARACTERS" "abcdefghijklmnopqrstuvwxyz0123456789")),
    b_NotImplemented := free_ok X G (c.fact 32 (f := .free "NotImplemented")),
    b_ValueError := free_ok X G (c.fact 33 (f := .free "ValueError")),
    b_all := free_ok X G (c.fact 34 (f := .free "all")),
    b_bool := free_ok X G (c.fact 35 (f := .free "bool")),
    b_enumerate := free_ok X G (c.fact 36 (f := .free "enumerate")),
    b_int := free_ok X G (c.fact 37 (f := .free "int")),
    b_isinstance := free_ok X G (c.fact 38 (f := .free "isinstance")),
    b_len := free_ok X G (c.fact 39 (f := .free "len")),
    b_list := free_ok X G (c.fact 40 (f := .free "list")),
    b_max := free_ok X G (c.fact 41 (f := .free "max")),
    b_min := free_ok X G (c.fact 42 (f := .free "min")),
    b_property := free_ok X G (c.fact 43 (f := .free "property")),
    b_range := free_ok X G (c.fact 44 (f := .free "range")),
    b_sorted := free_ok X G (c.fact 45 (f := .free "sorted")),
    b_str := free_ok X G (c.fact 46 (f := .free "str")),
    b_tuple := free_ok X G (c.fact 47 (f := .free "tuple")),
    r_InvalidPoint := excT_ok (glo_ok X G (c.fact 15 (f := .glo "InvalidPoint"))) x0,
    xc_InvalidPoint := excC_ok x1,
    xf_InvalidPoint := xfB_ok x2,
    xn_InvalidPoint_value := eqO_ok x3,
    xk_InvalidPoint := of_decide_eq_true x4,
    r_InvalidArc := excT_ok (glo_ok X G (c.fact 16 (f := .glo "InvalidArc"))) x5,
    xc_InvalidArc := excC_ok x6,
    xf_InvalidArc := xfB_ok x7,
    xn_InvalidArc_first := eqO_ok x8,
    xn_InvalidArc_second := eqO_ok x9,
    xk_InvalidArc := of_decide_eq_true x10,
    r_InvalidArcs := excT_ok (glo_ok X G (c.fact 17 (f := .glo "InvalidArcs"))) x11,
    xc_InvalidArcs := excC_ok x12,
    xf_InvalidArcs := xfB_ok x13,
    xn_InvalidArcs_position := eqO_ok x14,
    xk_InvalidArcs := of_decide_eq_true x15,
    p_Arc_start := propB_ok x16,
    p_Arc_end := propB_ok x17,
    o_Arc := ownC_ok (cls_ok (c.fact 19 (f := .cls "Arc"))) x18,
    q_Arc := ownK_ok x19,
    f_Arc := first_ok x20,
    x_Arc_ne := noNe_ok x21,
    a_Arc := x22 }
end k07
open PySem PySem.W PySem.Calls PyProof.Rows
set_option maxRecDepth 100000 in
set_option maxHeartbeats 0 in
theorem PySem.Challenge.cw_arccursors_k07_whole_arcs_divide_the_lin_holds : PySem.Challenge.rw_arccursors_k07_whole_arcs_divide_the_lin.Holds := by
  w_on; o_law
  refine HandSHeadRun.head_any (r := OpenLaw.row PySem.Challenge.rw_arccursors_k07_whole_arcs_divide_the_lin) (q := view (OpenLaw.row PySem.Challenge.rw_arccursors_k07_whole_arcs_divide_the_lin).prog [25]) (H := k07.hk) (ob := k07.ob) (M := 20000) (loose := k07.loose) (d := HandSHeadRun.topDef (OpenLaw.row PySem.Challenge.rw_arccursors_k07_whole_arcs_divide_the_lin).prog 25) (kwd := []) k07.ob_eq
    (by kernel_rfl) (fun s => by kernel_rfl) k07.run (by kernel_rfl) (by kernel_rfl) (by kernel_rfl) (by rfl) (by first | assumption | decide +kernel) (by decide +kernel) ⟨rfl, rfl, rfl, rfl, rfl, by decide +kernel⟩ ?hw ?hc
  case hw => w_witness2
  case hc =>
    refine Ah.law_walkT (l := PySem.Challenge.rw_arccursors_k07_whole_arcs_divide_the_lin) (n := 63) (k := 9) rfl (by decide) (by kernel_rfl) ⟨rfl, by decide, by decide⟩ ?F
    intro w mg fa h Y G hmg0
    obtain ⟨K, KX, c, tt⟩ := Y
    have hmg : mg ("law" : PySem.Str) = some (.ref fa) := by
      have e : (HandSHeadRun.topDef (OpenLaw.row PySem.Challenge.rw_arccursors_k07_whole_arcs_divide_the_lin).prog 25).name = ("law" : PySem.Str) := by kernel_rfl
      rw [← e]
      exact hmg0
    have T := k07.txt KX G c tt
    have e := hmg.symm.trans T.m_law
    cases e
    obtain ⟨sp, h3, h4⟩ := k07.law_end (P := (PySem.Challenge.rw_arccursors_k07_whole_arcs_divide_the_lin).prog) (w := w) T
    refine ⟨K, k07.tf.map (Ah.cTA K), sp, KX, fun p hp => ?_, fun p hp => ?_, fun p hp => ?_, h3, h4⟩
    · obtain ⟨f, hf, rfl⟩ := List.mem_map.mp hp
      exact tt.empty f hf
    · obtain ⟨f, hf, rfl⟩ := List.mem_map.mp hp
      exact tt.out f hf
    · obtain ⟨f, hf, rfl⟩ := List.mem_map.mp hp
      exact PySem.W.codeHd_of_K KX (tt.hd f hf)
