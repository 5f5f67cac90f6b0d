import PyProof.Rows.All
import Wide.All
import OpenK.AllK
import Wide.FinOn
import KE.KStateDown
import HandS.ForMost
import HandS.More
import HandS.Exc
import HandS.WordsExc
import HandS.Defaults
import HandS.Property
import HandS.Head0
import HandS.Head1
import HandS.Head2
import HandS.HeadEnd
import HandS.HeadHook1
import HandS.HeadHook2
import HandS.HeadHook3
import HandS.HeadHook4
import HandS.IsInst
import HandS.Flow
import HandS.Star
import HandS.FStr
import HandS.OwnEq
import HandS.Wide
import HandS.TupLe
import HandS.Codes
import PyProof.InstNe
import PyProof.StrBlock2
import HandS.SlotsOwn
import KE.KExcInit
import HandS.Walk
import HandS.ExcInit
import HandS.ExcField
import HandS.TryMany
import HandS.ExcIs
import HandS.Lambda
import HandS.EndTab
import KE.DataCmp
import PySem.Challenge.RW_arccursors_k04_errors_of_arcs
set_option Elab.async false
set_option linter.all false
set_option maxRecDepth 100000
set_option maxHeartbeats 4000000
/-! the head of a row by facts: defs at any address -/
namespace Ah
open PySem PySem.Spec PyProof.Rows L2 He
abbrev Frag := PySem.W.Frag
/-- the getter of a property -/
def gtA (C f : Str) (K : Frag) : Addr := match PySem.W.recIn K (ma K (ga K C) f) "property" with
  | some (.ref g :: _) => g
  | _ => 0
def glA (x : Str) (K : Frag) : Addr := ga K x
def mtA (C m : Str) (K : Frag) : Addr := ma K (ga K C) m
structure DefG where
  ad : Frag → Addr
  name : Str
  qual : Str
  params : Arguments
  body : List Stmt
  scope : Scope
  dfl : List Dv := []
  kwd : List (Str × Dv) := []
def fnG (K : Frag) (a : Addr) : FnW := match K.lookup a with
  | some ⟨_, _, .func fd, _⟩ => some (fd.name, fd.qualname, fd.params, fd.body, fd.scope, fd.globals, fd.closure, fd.builtins)
  | _ => none
def DefG.val (d : DefG) : FnW := some (d.name, d.qual, d.params, .stmts d.body, d.scope, mainGlobals, [], builtinsNs)
def DefG.dvs (K : Frag) (d : DefG) : List V := d.dfl.map (Dv.v K)
def DefG.kws (K : Frag) (d : DefG) : List (Str × V) := d.kwd.map fun q => (q.1, q.2.v K)
def DefG.ok (K : Frag) (d : DefG) : Bool := PySem.W.keepIn K (.ref (d.ad K)) && (match K.lookup (d.ad K) with
  | some ⟨_, _, .func fd, _⟩ => PySem.W.codeIn K fd.code d.qual && (dflB K fd.defaults (d.dvs K) && kwdB K fd.kwdefaults (d.kws K))
  | _ => false)
abbrev Stands (K : Frag) (d : DefG) : Prop := ∃ fd, FunD K d.name d.qual d.params d.body d.scope (d.dvs K) (d.kws K) (d.ad K) fd
theorem DefG.funD {K : Frag} {d : DefG} (e : fnG K (d.ad K) = d.val) (c : d.ok K = true) : Stands K d := by
  obtain ⟨kp, c2⟩ := ba c
  unfold fnG at e
  cases q : K.lookup (d.ad K) with
  | none =>
    rw [q] at c2
    cases c2
  | some o =>
    obtain ⟨oc, od, dt, osl⟩ := o
    rw [q] at c2 e
    cases dt with
    | func fd =>
      obtain ⟨n1, n2, n3, n4, n5, n6, n7, n8, n9, n10, n11, n12, n13, n14, n15⟩ := fd
      have e2 : (some (n1, n2, n3, n4, n5, n6, n7, n15) : FnW) = some (d.name, d.qual, d.params, .stmts d.body, d.scope, mainGlobals, [], builtinsNs) := e
      simp only [Option.some.injEq, Prod.mk.injEq] at e2
      obtain ⟨h1, h2, h3, h4, h5, h6, h7, h8⟩ := e2
      subst h1 h2 h3 h4 h5 h6 h7 h8
      have c3 : (PySem.W.codeIn K n13 d.qual && (dflB K n8 (d.dvs K) && kwdB K n9 (d.kws K))) = true := c2
      obtain ⟨k1, k2⟩ := ba c3
      obtain ⟨k3, k4⟩ := ba k2
      exact ⟨_, ⟨oc, od, n8, n9, n10, n11, n12, n13, n14, osl, rfl, q, k1, dflB_ok k3, kwdB_ok k4⟩, kp⟩
    | _ => cases c2
/-- the code object of the def at a -/
def CodeV (K : Frag) (a : Addr) : Value := match K.lookup a with
  | some ⟨_, _, .func fd, _⟩ => fd.code
  | _ => .none
def codeA (K : Frag) (a : Addr) : Addr := match CodeV K a with
  | .ref c => c
  | _ => 0
/-- a def's code object and its table -/
def cTA (K : Frag) (f : Frag → Addr) : Addr × Addr := (codeA K (f K), tabOf K (codeA K (f K)))
def tabB (g : Addr → Option Obj) (tf : List (Frag → Addr)) (K : Frag) : Bool := tf.all fun f => decide (CodeV K (f K) = .ref (codeA K (f K))) && (PySem.W.codeHdIn K (cTA K f).1 (cTA K f).2 && (match g (cTA K f).2 with
  | some o => emptyTab o
  | none => false))
/-- what is known of the tables of the defs tf -/
structure TabF (tf : List (Frag → Addr)) (h : Heap) (K : Frag) : Prop where
  code : ∀ f ∈ tf, CodeV K (f K) = .ref (codeA K (f K))
  hd : ∀ f ∈ tf, PySem.W.codeHdIn K (cTA K f).1 (cTA K f).2 = true
  out : ∀ f ∈ tf, K.lookup (cTA K f).2 = none
  empty : ∀ f ∈ tf, h.get? (cTA K f).2 = some { cls := .none, data := .fields #[] }
abbrev AlG : Type := Bool × List FnW
def obsG (fa : List Fa) (ex : Frag → Bool) (fn : List DefG) (K : Frag) : AlG := ((fa.all fun f => f.ok K) && (ex K && fn.all fun d => d.ok K), fn.map fun d => fnG K (d.ad K))
def valG (fn : List DefG) : AlG := (true, fn.map DefG.val)
def SaysG (fa : List Fa) (ex : Frag → Bool) (fn : List DefG) (K : Frag) : Prop := obsG fa ex fn K = valG fn
abbrev AlT : Type := AlG × Bool
def obsGG (n : Nat) (fa : List Fa) (ex : Frag → Bool) (fn : List DefG) (tf : List (Frag → Addr)) (g : Addr → Option Obj) : AlT := (obsG fa ex fn (frT g (asD g n)), tabB g tf (frT g (asD g n)))
theorem tabF_of {tf : List (Frag → Addr)} {n : Nat} {h : Heap} (e : tabB h.get? tf (frT h.get? (asD h.get? n)) = true) : TabF tf h (frT h.get? (asD h.get? n)) := by
  have key : ∀ f ∈ tf, _ := fun f hf => ba (List.all_eq_true.mp e f hf)
  have tab : ∀ f ∈ tf, ∃ o, h.get? (cTA (frT h.get? (asD h.get? n)) f).2 = some o ∧ emptyTab o = true := fun f hf => by
    have z := (ba (key f hf).2).2
    cases q : h.get? (cTA (frT h.get? (asD h.get? n)) f).2 with
    | none =>
      rw [q] at z
      cases z
    | some o =>
      rw [q] at z
      exact ⟨o, rfl, z⟩
  exact ⟨fun f hf => of_decide_eq_true (key f hf).1, fun f hf => (ba (key f hf).2).1, fun f hf => by
    obtain ⟨o, q, z⟩ := tab f hf
    exact frT_none q z, fun f hf => by
    obtain ⟨o, q, z⟩ := tab f hf
    rw [q, emptyTab_eq z]⟩
def hookG (n : Nat) (fa : List Fa) (ex : Frag → Bool) (fn : List DefG) (tf : List (Frag → Addr)) : PySem.W.Hook where
  α := AlT
  obs := fun s => obsGG n fa ex fn tf s.heap.get?
  val := fun _ => (valG fn, true)
  says := fun _ h => ∃ K : Frag, K.In h ∧ SaysG fa ex fn K ∧ TabF tf h K
  of := fun _ _ e => ⟨_, frT_in, congrArg (fun z : AlT => z.1) e, tabF_of (congrArg (fun z : AlT => z.2) e)⟩
  keeps := fun _ _ _ ⟨K, hK, c, t⟩ k => ⟨K, PySem.W.Frag.In.keeps hK k, c, ⟨t.code, t.hd, t.out, fun f hf => k _ _ (t.empty f hf)⟩⟩
theorem obsGG_eq {n : Nat} {fa : List Fa} {ex : Frag → Bool} {fn : List DefG} {tf : List (Frag → Addr)} {g : Addr → Option Obj} {s : Shared} (h : ∀ a, g a = s.heap.get? a) : obsGG n fa ex fn tf g = (hookG n fa ex fn tf).obs s := by
  have e : g = s.heap.get? := funext h
  rw [e] <;> rfl
section
variable {fa : List Fa} {ex : Frag → Bool} {fn : List DefG} {K : Frag}
theorem SaysG.fact (c : SaysG fa ex fn K) (i : Nat) {f : Fa} (h : fa[i]? = some f := by rfl) : f.ok K = true := by
  have c1 := (ba (show ((fa.all fun f => f.ok K) && (ex K && fn.all fun d => d.ok K)) = true from congrArg (fun z : AlG => z.1) c)).1
  exact List.all_eq_true.mp c1 f (List.mem_of_getElem? h)
theorem SaysG.more (c : SaysG fa ex fn K) : ex K = true :=
  (ba (ba (show ((fa.all fun f => f.ok K) && (ex K && fn.all fun d => d.ok K)) = true from congrArg (fun z : AlG => z.1) c)).2).1
theorem SaysG.def_ (c : SaysG fa ex fn K) (i : Nat) {d : DefG} (h : fn[i]? = some d := by rfl) : Stands K d := by
  have c2 := (ba (ba (show ((fa.all fun f => f.ok K) && (ex K && fn.all fun d => d.ok K)) = true from congrArg (fun z : AlG => z.1) c)).2).2
  have e : fn.map (fun d => fnG K (d.ad K)) = fn.map DefG.val := congrArg (fun z : AlG => z.2) c
  have e2 : (fn.map fun d => fnG K (d.ad K))[i]? = (fn.map DefG.val)[i]? := by rw [e]
  rw [List.getElem?_map, List.getElem?_map, h] at e2
  exact DefG.funD (Option.some.inj e2) (List.all_eq_true.mp c2 d (List.mem_of_getElem? h))
end
/-- a property of a class -/
def propB (C f : Str) (K : Frag) : Bool :=
  eqO (PySem.W.findIn K (.ref (ga K C)) f) (some (some (.ref (ma K (ga K C) f)))) &&
  (eqO (PySem.W.specialIn K (.ref (ma K (ga K C) f)) "__get__") (some (some (.builtin "property.__get__"))) &&
  (decide (PySem.W.takesIn K (.ref (ma K (ga K C) f)) = some true) &&
  (match PySem.W.recIn K (ma K (ga K C) f) "property" with
    | some (.ref _ :: _) => true
    | _ => false)))
theorem propB_ok {C f : Str} {K : Frag} (h : propB C f K = true) : PropOf K (ga K C) f (ma K (ga K C) f) (gtA C f K) := by
  unfold propB at h
  obtain ⟨h1, h2⟩ := ba h
  obtain ⟨h2, h3⟩ := ba h2
  obtain ⟨h3, h4⟩ := ba h3
  refine ⟨eqO_ok h1, eqO_ok h2, of_decide_eq_true h3, ?_⟩
  unfold gtA
  cases q : PySem.W.recIn K (ma K (ga K C) f) "property" with
  | none => rw [q] at h4; cases h4
  | some l =>
    rw [q] at h4
    cases l with
    | nil => cases h4
    | cons v r =>
      cases v with
      | ref g => exact ⟨r, rfl⟩
      | _ => cases h4
end Ah

/-! short words: a def that keeps its promise (FnB), calls of it. Room, and no repr is under way (Rm) -/
namespace Ah
open PySem PySem.Spec PyProof.Rows L2 He
structure Rm (k : Nat) (A : Around) : Prop where
  r : Room k A
  g : A.guards = some []
section
variable {j k : Nat} {A : Around}
theorem Rm.mono (h : Rm k A) (hj : j ≤ k) : Rm j A := ⟨h.r.mono hj, h.g⟩
theorem Rm.in1 (h : Rm (k + 1) A) : Rm k A.in1 := ⟨h.r.in1, h.g⟩
theorem Rm.make (h : Rm (k + 1) A) (C : Addr) (us : List Value) (kw : List (Str × Value)) : Rm k (A.under (.builtin "type.__call__" ⟨.ref C :: us, kw⟩)) := by
  refine ⟨h.r.make C us kw, ?_⟩
  show pushGuards (Code.builtin "type.__call__" ⟨.ref C :: us, kw⟩).guards A.guards = some []
  rw [h.g]
  rfl
theorem Rm.hu (h : Rm k A) : A.units + 1 < cLine := hu_of h.r
end
theorem hu0 {A : Around} {k : Nat} (hr : Rm k A) : A.units < cLine := hr.r.units0
theorem hu64 {A : Around} {k : Nat} (hr : Rm k A) : A.units + 64 < cLine := hr.r.units
theorem hu99 {A : Around} {k : Nat} (hr : Rm k A) : A.units + 99 < cLine := by
  have := hr.r.un
  omega
/-- the def at f, called by its positional arguments, keeps the promise sp -/
structure FnB (P : Program) (w : World) (K : Frag) (mg : Str → Option Value) (base : Heap) (k : Nat) (f : Addr) (sp : Sp) : Prop where
  run : ∀ (A : Around) (outer : List Env) (s : Shared) (H : Hp) (us : List Value) (vs : List V) (Q : VK) (E : XK), Rm k A → Env0 P w K mg base A outer s H → Vals vs us → sp vs H Q E →
    codeAny (model P w) A (.call (.ref f) ⟨us, []⟩) (CR (L2.CX P w) outer P w H s Q E) s
  kp : PySem.W.keepIn K (.ref f) = true
section
variable {P : Program} {w : World} {K : Frag} {mg : Str → Option Value} {base : Heap}
theorem FnB.mono {j k : Nat} {f : Addr} {sp : Sp} (F : FnB P w K mg base j f sp) (h : j ≤ k) : FnB P w K mg base k f sp := ⟨fun A outer s H us vs Q E hr => F.run A outer s H us vs Q E (hr.mono h), F.kp⟩
theorem FnB.imp {k : Nat} {f : Addr} {sp sp' : Sp} (F : FnB P w K mg base k f sp) (h : ∀ vs H Q E, sp' vs H Q E → sp vs H Q E) : FnB P w K mg base k f sp' := ⟨fun A outer s H us vs Q E hr e0 r q => F.run A outer s H us vs Q E hr e0 r (h _ _ _ _ q), F.kp⟩
/-- a body that keeps a promise, wherever it is entered with room -/
def BodyB (CX : CXT) (P : Program) (w : World) (K : Frag) (mg : Str → Option Value) (base : Heap) (N : List Str) (d : DefG) (k : Nat) (sp : Sp) : Prop :=
  ∀ (A : Around) (outer : List Env) (s : Shared) (H : Hp) (vs : List V) (Q : VK) (E : XK), Rm k (A.deeper (envOfC d.qual d.scope s.heap.objs.size (d.ad K) (CodeV K (d.ad K)))) → sp vs H Q E →
    ∃ t, PSs (cxOf CX P w K mg base N d.qual d.scope (d.ad K) (CodeV K (d.ad K)) A outer s H E) d.body t ∧ t { nx := fun _ H' => Q .non H', rt := Q } (L2.start N vs) H
/-- how a call of such a def runs, its arguments bound -/
theorem body_run {CX : CXT} {N ps : List Str} {k : Nat} {sp : Sp} {d : DefG} {fd : FuncData} {dvs : List V} {kws : List (Str × V)} (F : FunD K d.name d.qual d.params d.body d.scope dvs kws (d.ad K) fd) (S : FnScope N ps d.scope) (hbody : BodyB CX P w K mg base N d k sp)
    {A : Around} {outer : List Env} {s : Shared} {H : Hp} {args : Args} {us : List Value} {vs : List V} {Q : VK} {E : XK} (hr : Rm (k + 1) A) (e0 : Env0 P w K mg base A outer s H) (hb : BindsTo s fd args (ps.zip us)) (hl : vs.length = ps.length) (r : Vals vs us) (hsp : sp vs H Q E) :
    codeAny (model P w) A (.call (.ref (d.ad K)) args) (CR CX outer P w H s Q E) s := by
  obtain ⟨oc, od, dV, kV, doc, pm, an, cdv, ct, osl, rfl, lk, hcd, _, _⟩ := F.ex
  have KX : K.In s.heap := e0.mod.kin.keeps fun b o e => (e0.bs b o e).1
  have lim : s.heap.NoLimit := e0.mod.nolimit.keeps fun b o e => (e0.bs b o e).1
  have par : ∀ y ∈ ps.zip us, d.scope.names.lookup y.1 = some .local ∨ (d.scope.names.lookup y.1 = some .cell ∧ ((cellsFrom (s.heap.objs.size + 1) d.scope.names []).lookup y.1).isSome = true) := by
    rintro ⟨n, v⟩ hy
    cases S.par n (List.of_mem_zip hy).1 with
    | inl q => exact Or.inl q
    | inr q => exact Or.inr ⟨q, PySem.W.cellsFrom_some _ _ _ (Or.inl q)⟩
  refine codeAny_call_function hr.r.depth (KX _ _ lk) rfl S.co S.gen rfl (PySem.W.codeRec_of KX hcd) (hb _ _ _ _ ?_)
  refine wpAny_newFunctionEnv_cells S.kind par fun env he s1 x => ?_
  subst he
  refine ⟨lim.keeps x.toInCall.keep, codeAny_func ?_⟩
  have ec : CodeV K (d.ad K) = cdv := by
    unfold CodeV
    rw [lk]
  subst ec
  have hr' : Rm k (A.deeper (envOfC d.qual d.scope s.heap.objs.size (d.ad K) (CodeV K (d.ad K)))) := ⟨hr.r.deeper _, hr.g⟩
  obtain ⟨t, ht, hq⟩ := hbody A outer s H vs Q E hr' hsp
  have I := inv_start (CX := CX) (E := E) S hr.r.hd e0 hl r x
  refine wpAny_mono (ht.run [] s1 (L2.start N vs) H _ I hq) (fun fl s' hs => ?_) fun _ _ hs => hs
  cases fl with
  | ret u =>
    obtain ⟨v, _, H', J, rv, q⟩ := hs
    exact ⟨v, H', J.os, J.bare, J.base, J.hok, rv, q⟩
  | next =>
    obtain ⟨_, H', J, q⟩ := hs
    exact ⟨V.non, H', J.os, J.bare, J.base, J.hok, rfl, q⟩
  | brk => exact hs.elim fun _ z => z.elim fun _ z => z.2.elim
  | cont => exact hs.elim fun _ z => z.elim fun _ z => z.2.elim
/-- THE RULE for a def without defaults -/
theorem okD {N ps : List Str} {k : Nat} {sp : Sp} {d : DefG} (S : Stands K d) (h0 : d.dfl = []) (sc : FnScope N ps d.scope) (len : ∀ vs H Q E, sp vs H Q E → vs.length = ps.length)
    (hb : ∀ (kV doc pm : Value) (an : Option Addr) (cdv ct : Value) (us : List Value), us.length = ps.length → bindArgs (PySem.W.fnOf d.name d.qual d.params d.body d.scope .none kV doc pm an cdv ct) ⟨us, []⟩ = pure (ps.zip us))
    (hbody : BodyB (L2.CX P w) P w K mg base N d k sp) : FnB P w K mg base (k + 1) (d.ad K) sp := by
  obtain ⟨fd, F⟩ := S
  have e : d.dvs K = [] := by unfold DefG.dvs; rw [h0]; rfl
  rw [e] at F
  refine ⟨fun A outer s H us vs Q E hr e0 r hsp => ?_, F.kp⟩
  have hl := len _ _ _ _ hsp
  have KX : K.In s.heap := e0.mod.kin.keeps fun b o e => (e0.bs b o e).1
  have b := F.bindsN hb s us KX (by rw [List.append_nil, ← r.length]; exact hl)
  rw [List.append_nil] at b
  exact body_run F sc hbody hr e0 b hl r hsp
end
section
variable {X : Cx} {k j : Nat} {f C : Addr} {sp : Sp} {E : XK} {x m : Str} {e o : Expr} {es : List Expr} {t : TA} {ta : TE} {p pos apos : Pos} {pins : List (Addr × Obj)} {σ : L2.St} {H : Hp} {s : Shared}
/-- the callee runs, at A, at or below the running body -/
theorem runB {A : Around} {Q : VK} {us : List Value} {vs : List V} (F : FnB X.prog X.w X.K X.mg X.base k f sp) (hr : Rm k A) (e0 : Env0 X.prog X.w X.K X.mg X.base A X.stack s H) (hx : Passes (L2.CX X.prog X.w) X E) (I : L2.Inv X pins σ H s) (r : Vals vs us) (h : sp vs H Q E) :
    codeAny (model X.prog X.w) A (.call (.ref f) ⟨us, []⟩) (fun r s' => match r with | .ok (.ret v) => EP X pins σ Q v s' | .ok _ => False | .error e => X.xe e s') s := by
  refine codeAny_mono (F.run A X.stack s H us vs Q E hr e0 r h) fun res s' hq => ?_
  match res, hq with
  | .error e, hq => exact hx pins σ H s e s' I hq
  | .ok (.ret u), hq => exact I.after hq
theorem pe_cF (F : FnB X.prog X.w X.K X.mg X.base k f sp) (hr : Rm j X.A) (hm : X.mg x = some (.ref f)) (hx : Passes (L2.CX X.prog X.w) X E) (ha : PA X (e :: es) t) (hk : k ≤ j := by decide) (hg : Gl X x := by rfl)
    (hdb : (x == ("__debug__" : Str)) = false := by decide) (he : starEach (e :: es) X.env = (false, eval e X.env) :: starEach es X.env := by rfl) (hpl : (backTo pos (starEach es X.env)).any (·.1) = false := by rfl) :
    PE X (.Call (.Name x p) (e :: es) [] pos) (tCall sp [] E t) := by
  refine ⟨fun pins s σ H Q I h => wpAny_Call_Name_kw (ld_glob I hg hm ?_ hdb)⟩
  refine PySem.W.callWith_K (h₀ := X.base) I.ok.mod.kin F.kp (thn (ha.run pos pins s σ H _ I h) fun us s1 ⟨vs, H1, I1, r, q⟩ => ⟨I1.kIn, ?_⟩) he hpl
  simp only [List.append_nil] at q
  exact wpAny_call (runB F (hr.mono hk) I1.env0 hx I1 r q)
theorem pe_cF0 (F : FnB X.prog X.w X.K X.mg X.base k f sp) (hr : Rm j X.A) (hm : X.mg x = some (.ref f)) (hx : Passes (L2.CX X.prog X.w) X E) (hk : k ≤ j := by decide) (hg : Gl X x := by rfl) (hdb : (x == ("__debug__" : Str)) = false := by decide) :
    PE X (.Call (.Name x p) [] [] pos) (tCall sp [] E tNil) := by
  refine ⟨fun pins s σ H Q I h => wpAny_Call_Name_kw (ld_glob I hg hm ?_ hdb)⟩
  exact PySem.W.callWith_K0 (first := []) I.kIn F.kp (wpAny_call (runB (us := []) (vs := []) F (hr.mono hk) I.env0 hx I .nil h))
theorem pe_mkF (M : Mk X.K C f) (F : FnB X.prog X.w X.K X.mg X.base k f sp) (hr : Rm j X.A) (hm : X.mg x = some (.ref C)) (hx : Passes (L2.CX X.prog X.w) X E) (ha : PA X (e :: es) t) (hk : k + 1 ≤ j := by decide) (hg : Gl X x := by rfl)
    (hdb : (x == ("__debug__" : Str)) = false := by decide) (he : starEach (e :: es) X.env = (false, eval e X.env) :: starEach es X.env := by rfl) (hpl : (backTo pos (starEach es X.env)).any (·.1) = false := by rfl) :
    PE X (.Call (.Name x p) (e :: es) [] pos) (tMake C sp [] E t) := by
  refine ⟨fun pins s σ H Q I h => wpAny_Call_Name_kw (ld_glob I hg hm ?_ hdb)⟩
  refine PySem.W.callWith_K (h₀ := X.base) I.ok.mod.kin M.kp (thn (ha.run pos pins s σ H _ I h) fun us s1 ⟨vs, H1, I1, r, q⟩ => ⟨I1.kIn, ?_⟩) he hpl
  have q' := q (s1.heap.objs.size + 1) s1.heap.objs.size (I1.hok.fresh (Nat.le_succ _)) (I1.hok.fresh (Nat.le_refl _)) (Nat.ne_of_lt (Nat.lt_succ_self _))
  rw [List.append_nil] at q'
  have I2 := Inv.made (C := C) I1
  have r2 : Vals (V.ref (s1.heap.objs.size + 1) :: vs) (Value.ref (s1.heap.objs.size + 1) :: us) := .cons rfl r
  refine wpAny_call (make_map (f := f) I1.kIn M.makes M.init (beq_iff_eq.mp M.fn) (codeAny_mono (F.run _ X.stack _ _ _ _ _ E ((hr.mono hk).make C us []) (I2.env0.make C us []) r2 q') fun res s' hq' => ?_))
  match res, hq' with
  | .error e, hq' => exact hx pins σ _ _ e s' I2 hq'
  | .ok (.ret u), hq' =>
    obtain ⟨v, H', I3, rv, ev, q3⟩ := I2.after hq'
    subst ev
    exact ⟨rv, V.ref (s1.heap.objs.size + 1), H', I3, rfl, q3⟩
theorem pe_mtF {pl : Sem Bool} (he : PE X o ta) (c : Cls X.K C) (hm : Meth X.K C m f) (F : FnB X.prog X.w X.K X.mg X.base k f sp) (hr : Rm j X.A) (hx : Passes (L2.CX X.prog X.w) X E) (ha : PA X (e :: es) t) (hk : k ≤ j := by decide)
    (hst : starEach (e :: es) X.env = (false, eval e X.env) :: starEach es X.env := by rfl) (hpl : (backTo pos (starEach es X.env)).any (·.1) = false := by rfl)
    (ht : eval (.Call (.Attribute o m apos) (e :: es) [] pos) X.env = (do
      let ov ← eval o X.env
      standAt apos.atName
      let (f, first) ← holding [ov] (getMethod ov m pl)
      callWith pos f first (backTo pos (starEach (e :: es) X.env)) (backToKw pos (keywordEach [] X.env))) := by rfl) :
    PE X (.Call (.Attribute o m apos) (e :: es) [] pos) (tMeth C m sp [] E ta t) := by
  refine ⟨fun pins s σ H Q I h => PySem.W.methodCall_KW (pl := pl) (thn (he.run pins s σ H _ I h) fun u s1 ⟨x, H1, I1, rx, a, dx, fs, ex, ea, l, q⟩ => ?_) ht⟩
  subst ex
  cases (show u = Value.ref a from rx)
  refine getmeth_ok I1 ea c hm l (PySem.W.callWith_K (first := [.ref a]) (h₀ := X.base) I.ok.mod.kin hm.kp (thn (ha.run pos pins s1 σ H1 _ I1 q) fun us s2 ⟨vs, H2, I2, r, q2⟩ => ⟨I2.kIn, ?_⟩) hst hpl)
  simp only [List.append_nil] at q2
  exact wpAny_call (runB (us := .ref a :: us) (vs := .ref a :: vs) F (hr.mono hk) I2.env0 hx I2 (.cons rfl r) q2)
theorem pe_mtF0 {pl : Sem Bool} (he : PE X o ta) (c : Cls X.K C) (hm : Meth X.K C m f) (F : FnB X.prog X.w X.K X.mg X.base k f sp) (hr : Rm j X.A) (hx : Passes (L2.CX X.prog X.w) X E) (hk : k ≤ j := by decide)
    (ht : eval (.Call (.Attribute o m apos) [] [] pos) X.env = (do
      let ov ← eval o X.env
      standAt apos.atName
      let (f, first) ← holding [ov] (getMethod ov m pl)
      callWith pos f first (backTo pos (starEach [] X.env)) (backToKw pos (keywordEach [] X.env))) := by rfl) :
    PE X (.Call (.Attribute o m apos) [] [] pos) (tMeth C m sp [] E ta tNil) := by
  refine ⟨fun pins s σ H Q I h => PySem.W.methodCall_KW (pl := pl) (thn (he.run pins s σ H _ I h) fun u s1 ⟨x, H1, I1, rx, a, dx, fs, ex, ea, l, q⟩ => ?_) ht⟩
  subst ex
  cases (show u = Value.ref a from rx)
  exact getmeth_ok I1 ea c hm l (PySem.W.callWith_K0 (first := [.ref a]) I1.kIn hm.kp (wpAny_call (runB (us := [.ref a]) (vs := [.ref a]) F (hr.mono hk) I1.env0 hx I1 (.cons rfl .nil) q)))
theorem pe_prF {q : Addr} {y : Str} (he : PE X o ta) (c : Cls X.K C) (hp : PropOf X.K C y q f) (F : FnB X.prog X.w X.K X.mg X.base k f sp) (hr : Rm j X.A) (hx : Passes (L2.CX X.prog X.w) X.nox E) (hk : k + 1 ≤ j := by decide)
    (hab : attributeBase o y X.env (eval o X.env) = eval o X.env := by rfl) : PE X (.Attribute o y pos) (tProp C sp [] E ta) := by
  refine ⟨fun pins s σ H Q I h => attr_of hab (thn (he.run pins s σ H _ I h) fun u s1 ⟨x, H1, I1, rx, a, dx, fs, ex, ea, q⟩ => ?_)⟩
  subst ex
  cases (show u = Value.ref a from rx)
  obtain ⟨mA, O, _⟩ := ins_get I1.hok ea
  obtain ⟨od, J, _⟩ := O.look
  obtain ⟨rest, hrec⟩ := hp.rec_
  have I2 := I1.tok (s1.toks + 1)
  have hc : (PySem.W.clsIn X.K C).isSome = true := by
    obtain ⟨cd, hc, _⟩ := PySem.W.any_some c.hd
    rw [hc]
    rfl
  refine PySem.W.get_bind I1.kIn J (PySem.W.plainGet_of (c.get y)).1 (PySem.W.findObj_data hc hp.at_ hp.get hp.tak) (PySem.W.plainGet_of (c.get y)).2 (wpAny_call (PySem.W.prop_get (s := { s1 with toks := s1.toks + 1 }) I1.kIn hrec ?_))
  refine codeAny_mono (F.run X.A.in1 X.stack { s1 with toks := s1.toks + 1 } H1 [.ref a] [.ref a] Q E (hr.mono hk).in1 I2.env0.in1 (.cons rfl .nil) q) fun res s' hq => ?_
  match res, hq with
  | .error er, hq => exact False.elim (hx pins σ H1 { s1 with toks := s1.toks + 1 } er s' (I2.wish _) hq)
  | .ok (.ret u), hq =>
    obtain ⟨v, H', I3, rv, q3⟩ := I2.after hq
    exact wpAny_of_eq (PySem.W.handedOut_of (handed_of rv)) ⟨v, H', I3, rv, q3⟩
end
/-- a promise of a function of scalars: no heap is touched -/
theorem upd_keep {H : Hp} {a p : Addr} {o o' : HO} (h : H a = some o') (hp : H p = none) : upd H p o a = some o' := by
  rw [upd_ne (ne_of_none h hp)]
  exact h
theorem upd_other {H : Hp} {a p : Addr} {o o' : HO} (hn : a ≠ p) (h : H a = some o') : upd H p o a = some o' := by
  rw [upd_ne hn]
  exact h
theorem Same.upd {H H' : Hp} {p : Addr} {o : HO} (s : Same H H') (hp : H' p = none) : Same H (L2.upd H' p o) := fun b o' e => upd_keep (s b o' e) hp
end Ah

/-! kinds of values, isinstance -/
namespace Ah
open PySem PySem.Spec PyProof.Rows L2 He
/-- what a value is -/
inductive Kn where
  | int (i : Int)
  | bl (b : Bool)
  | str (z : Str)
  | non
  | lst (a : Addr) (xs : List V)
  | tup (a : Addr) (xs : List V)
  | dct (a : Addr) (kvs : List (Key × V))
  | ins (a C : Addr)
def bTys : List String := ["int", "bool", "str", "list", "tuple", "dict"]
/-- a class of the program's own, as isinstance sees its instances -/
structure OwnC (K : Frag) (C : Addr) : Prop where
  cl : Cls K C
  ha : PySem.W.findIn K (.ref C) "__class__" = some (some (.builtin "object.__class__"))
  hn : PySem.W.specialIn K (.builtin "object.__class__") "__get__" = some (some (.builtin "getset_descriptor.__get__"))
  htk : PySem.W.takesIn K (.builtin "object.__class__") = some true
  hm : PySem.W.mroIn K C (.type "object") = some true
  kit : ∀ T ∈ bTys, PySem.W.kitOne K (.ref C) (.type T) = some false
/-- .. as isinstance sees the class -/
structure OwnK (K : Frag) (C : Addr) : Prop where
  kit : ∀ T ∈ ["NoneType", "int", "bool", "str", "list", "tuple", "dict"], PySem.W.kitOne K (.type T) (.ref C) = some false
inductive Is (K : Frag) (H : Hp) : V → Kn → Prop where
  | int (i : Int) : Is K H (.int i) (.int i)
  | bl (b : Bool) : Is K H (.bl b) (.bl b)
  | str (z : Str) : Is K H (.str z) (.str z)
  | non : Is K H .non .non
  | lst {a : Addr} {xs : List V} (e : H a = some (.lst xs)) : Is K H (.ref a) (.lst a xs)
  | tup {a : Addr} {xs : List V} (e : H a = some (.tup xs)) : Is K H (.ref a) (.tup a xs)
  | dct {a : Addr} {kvs : List (Key × V)} (e : H a = some (.dK kvs)) : Is K H (.ref a) (.dct a kvs)
  | ins {a C dx : Addr} {fs : List (Str × V)} (e : H a = some (.ins C dx fs)) (c : OwnC K C) : Is K H (.ref a) (.ins a C)
theorem Is.same {K : Frag} {H H' : Hp} {x : V} {k : Kn} (h : Is K H x k) (s : Same H H') : Is K H' x k := by
  cases h with
  | int i => exact .int i
  | bl b => exact .bl b
  | str z => exact .str z
  | non => exact .non
  | lst e => exact .lst (s _ _ e)
  | tup e => exact .tup (s _ _ e)
  | dct e => exact .dct (s _ _ e)
  | ins e c => exact .ins (s _ _ e) c
def Kn.ty : Kn → Value
  | .int _ => .type "int"
  | .bl _ => .type "bool"
  | .str _ => .type "str"
  | .non => .type "NoneType"
  | .lst _ _ => .type "list"
  | .tup _ _ => .type "tuple"
  | .dct _ _ => .type "dict"
  | .ins _ C => .ref C
def Kn.isT : Kn → String → Bool
  | .int _, T => T == "int"
  | .bl _, T => T == "int" || T == "bool"
  | .str _, T => T == "str"
  | .non, _ => false
  | .lst _ _, T => T == "list"
  | .tup _ _, T => T == "tuple"
  | .dct _ _, T => T == "dict"
  | .ins _ _, _ => false
def Kn.isC : Kn → Addr → Bool
  | .ins _ C, D => decide (C = D)
  | _, _ => false
theorem Is.tyx {K : Frag} {H : Hp} {x : V} {k : Kn} (h : Is K H x k) : TyX K H x k.ty := by
  cases h with
  | int i => exact .base (.int i)
  | bl b => exact .base (.bl b)
  | str z => exact .base (.str z)
  | non => exact .base .non
  | lst e => exact .base (.lst e)
  | tup e => exact .base (.tup e)
  | dct e => exact .base (.dK e)
  | ins e c => exact .base (.ins e c.cl c.ha c.hn c.htk c.hm)
theorem kit6 {K : Frag} {k : String} {r : String → Bool} (h : ∀ T ∈ bTys, kitB k T = some (r T)) : ∀ T ∈ bTys, PySem.W.kitOne K (.type k) (.type T) = some (r T) := fun T hT => kit_ty (h T hT)
theorem Is.kit {K : Frag} {H : Hp} {x : V} {k : Kn} (h : Is K H x k) : ∀ T ∈ bTys, PySem.W.kitOne K k.ty (.type T) = some (k.isT T) := by
  cases h with
  | ins e c => exact c.kit
  | int i => exact kit6 (r := fun T => T == "int") (by decide +kernel)
  | bl i => exact kit6 (r := fun T => T == "int" || T == "bool") (by decide +kernel)
  | str i => exact kit6 (r := fun T => T == "str") (by decide +kernel)
  | non => exact kit6 (r := fun T => false) (by decide +kernel)
  | lst i => exact kit6 (r := fun T => T == "list") (by decide +kernel)
  | tup i => exact kit6 (r := fun T => T == "tuple") (by decide +kernel)
  | dct i => exact kit6 (r := fun T => T == "dict") (by decide +kernel)
/-- isinstance(x, T), T a built-in class -/
theorem isi (T : String) {K : Frag} {H : Hp} {x : V} {k : Kn} {Q : VK} (h : Is K H x k) (q : Q (.bl (k.isT T)) H) (hT : T ∈ bTys := by decide) : rIsi K [x, .ty T] H Q :=
  ⟨x, .ty T, _, _, _, rfl, .ty T, h.tyx, h.kit T hT, q⟩
theorem isiC {K : Frag} {H : Hp} {x : V} {k : Kn} {C : Addr} {Q : VK} (h : Is K H x k) (o : OwnK K C) (hd : ∀ a D, k = .ins a D → D ≠ C → PySem.W.kitOne K (.ref D) (.ref C) = some false) (q : Q (.bl (k.isC C)) H) : rIsi K [x, .ref C] H Q := by
  refine ⟨x, .ref C, k.ty, .ref C, k.isC C, rfl, .own C, h.tyx, ?_, q⟩
  cases h with
  | @ins a D dx fs e c =>
    show PySem.W.kitOne K (.ref D) (.ref C) = some (decide (D = C))
    by_cases z : D = C
    · subst z
      rw [decide_eq_true rfl]
      unfold PySem.W.kitOne
      rw [if_pos (by simp)]
    · rw [decide_eq_false z]
      exact hd a D rfl z
  | int i => exact o.kit _ (by decide)
  | bl i => exact o.kit _ (by decide)
  | str i => exact o.kit _ (by decide)
  | non => exact o.kit _ (by decide)
  | lst i => exact o.kit _ (by decide)
  | tup i => exact o.kit _ (by decide)
  | dct i => exact o.kit _ (by decide)
/-! constants of the module -/
theorem gint {mg : Str → Option Value} {x : Str} {i : Int} (h : ∃ t, mg x = some (.int i t)) : ∃ u, mg x = some u ∧ RelV (.int i) u := by
  obtain ⟨t, h⟩ := h
  exact ⟨_, h, ⟨t, rfl⟩⟩
theorem gstr {mg : Str → Option Value} {x z : Str} (h : ∃ t, mg x = some (.str z t)) : ∃ u, mg x = some u ∧ RelV (.str z) u := by
  obtain ⟨t, h⟩ := h
  exact ⟨_, h, ⟨t, rfl⟩⟩
theorem pe_gc {X : Cx} {x : Str} {pos : Pos} {v : V} (hg : Gl X x) (h : ∃ u, X.mg x = some u ∧ RelV v u) (hd : (x == ("__debug__" : Str)) = false := by decide) : PE X (.Name x pos) (tC v) := by
  obtain ⟨u, hm, r⟩ := h
  exact pe_glob hg hm r hd
theorem pj_nil {X : Cx} : PJ X [] [] := .nil
theorem pj_cons {X : Cx} {e : Expr} {t : TE} {es : List Expr} {ts : List TE} (h : PE X e t) (r : PJ X es ts) : PJ X (e :: es) (t :: ts) := .cons h r
end Ah

/-! numbers and keys: the mathematics -/
namespace Ah
open PySem PySem.Spec PyProof.Rows L2 He
def Kn.within (k : Kn) (a b : Int) : Bool := match k with
  | .int i => decide (a ≤ i) && decide (i ≤ b)
  | _ => false
/-- a sign of a key -/
def keySign (c : Nat) : Bool := (decide (97 ≤ c) && decide (c ≤ 122)) || (decide (48 ≤ c) && decide (c ≤ 57))
def isKeyL (l : List Nat) : Bool := decide (1 ≤ l.length) && decide (l.length ≤ 20) && l.all keySign
def Kn.isKey : Kn → Bool
  | .str z => isKeyL z.cps.toList
  | _ => false
/-- a text within the line -/
def Kn.small : Kn → Prop
  | .str z => z.length ≤ 1000000
  | _ => True
end Ah

/-! own rules: ==, != by an own __eq__, repr by an own __repr__, a call of an instance, text * int -/
namespace Ah
open PySem PySem.Spec PyProof.Rows L2 He
section
variable {X : Cx} {k j : Nat} {f C : Addr} {sp : Sp} {E : XK} {pins : List (Addr × Obj)} {σ : L2.St} {H : Hp} {s : Shared}
theorem looks_kn {x : V} {u : Value} {k : Kn} (I : Inv X pins σ H s) (r : RelV x u) (h : Is X.K H x k) (M : Model) : PySem.W.Looks M s.heap (typeOf u) k.ty := by
  obtain ⟨P, kx, p, _⟩ := kit_of I r h.tyx
  exact kx.ty M s.heap I.kIn p
/-- what == by an own __eq__ asks: x an instance of C, y of any kind, not of a class below C -/
def rEqO (K : Frag) (C : Addr) (sp : Sp) (E : XK) : R2 := fun x y H Q => ∃ a dx fs k, x = .ref a ∧ H a = some (.ins C dx fs) ∧ Is K H y k ∧ PySem.W.notFirst K C k.ty = true ∧ sp [x, y] H (fun z H' => ∃ b, z = .bl b ∧ Q (.bl b) H') E
theorem op_eqO (hm : Meth X.K C "__eq__" f) (F : FnB X.prog X.w X.K X.mg X.base k f sp) (hr : Rm j X.A) (hx : Passes (L2.CX X.prog X.w) X E) (hk : k ≤ j := by decide) : OpR X (compareOp .Eq) (rEqO X.K C sp E) := by
  intro pins s σ H x y v u Q I rx ry h
  obtain ⟨a, dx, fs, kn, rfl, ha, hy, hn, q⟩ := h
  cases (show v = Value.ref a from rx)
  obtain ⟨mA, O, _⟩ := ins_get I.hok ha
  obtain ⟨od, J, _⟩ := O.look
  obtain ⟨m, hF⟩ := I.fr
  refine PySem.W.cmp_K (op := .Eq) (tb := kn.ty) (hu0 hr) hF I.ok.mod.kin J (looks_kn I ry hy _) hn hm.at_ hm.fn ?_
  refine wpAny_mono (wpAny_call (runB (us := [.ref a, u]) (vs := [.ref a, y]) F (hr.mono hk) I.env0 hx I (.cons rfl (.cons ry .nil)) q)) (fun w s' z => ?_) fun _ _ x => x
  obtain ⟨z', H', I', rz, b, eb, qz⟩ := z
  subst eb
  cases (show w = Value.bool b from rz)
  exact ⟨.bl b, H', I', rfl, qz⟩
/-- != by an own __eq__ -/
theorem ne_K {prog : Program} {w : World} {A : Around} {E : Value → Shared → Prop} {s : Shared} {K : Frag} {x C L f : Addr} {h₀ : Heap} {m : Str → Option Value} {ox : Obj} {od : Option Obj} {b tb : Value} {Q : Value → Shared → Prop}
    (hu : A.units + 1 < cLine) (F : Fr h₀ L s.heap m) (X₀ : K.In h₀) (I : PySem.W.InstAt s.heap x ox C od) (hb : PySem.W.Looks (model prog w) s.heap (typeOf b) tb) (hn : PySem.W.notFirst K C tb = true)
    (hne : PySem.W.findIn K (.ref C) "__ne__" = some (some (.builtin "object.__ne__"))) (hcl : PySem.W.excInitIn K C [.type "object"] "object.__new__" = true)
    (hs : PySem.W.findIn K (.ref C) "__eq__" = some (some (.ref f))) (hf : PySem.W.isFn K (.ref f) = true)
    (h : wpAny (model prog w) A.in1 (call (.ref f) [.ref x, b]) (fun v s' => ∃ c, v = .bool c ∧ Q (.bool (!c)) s') E s) : wpAny (model prog w) A (richCompare .NotEq (.ref x) b) Q E s := by
  have X := X₀.keeps F.keep
  have one : wpAny (model prog w) A (tryCompare (.ref x) "__ne__" b) (fun r s' => ∃ v, r = some v ∧ Q v s') E s := by
    unfold tryCompare
    refine wpAny_bind (m := callSpecialIfBound? (.ref x) "__ne__" [b]) ?_
    simp only [callSpecialIfBound?, bindSpecialIfBound?]
    refine wpAny_holding (wpAny_bind (wpAny_bind (wpAny_bind (I.type.here ((PySem.W.looks_findIn X hne).here ?_)))))
    refine wpAny_bind (wpAny_askSetting (wpAny_ite ?_))
    have bnd : bindSpecial (.builtin "object.__ne__") (.ref x) = pure (.builtin "object.__ne__", [.ref x]) := PySem.F.cmp_object.ne.bind _
    have fin : wpAny (model prog w) A (call (.builtin "object.__ne__") ([.ref x] ++ [b]) >>= fun v => pure (some v)) (fun r s' => wpAny (model prog w) A (match r with
        | some .notImplemented | none => pure none
        | some v => pure (some v)) (fun r s' => ∃ v, r = some v ∧ Q v s') E s') E s := by
      refine wpAny_bind (wpAny_call (codeAny_call_builtin PySem.F.cmp_object.ne.plain PySem.F.cmpEntry_ne ?_))
      obtain ⟨nm, N, qn, bs, bm, hdct, sn, sub, ab, col, dd, k0, k1, k2, k3, k5, hC, hbm⟩ := PySem.W.excInit_of X hcl
      have hob : bm.contains (.type "object") = true := by rw [hbm]; decide +kernel
      obtain ⟨hp, gg, dr, tk, os⟩ := s
      refine wpAny_check_slot_inst PySem.F.cmpKind_ne PySem.F.cmpSplit_ne (PySem.F.cmpArgs_ne _ _) hob I.at_ I.cls hC ?_
      unfold Builtin.«object.__ne__»
      repeat (first
        | with_reducible refine wpAny_cRoomFor hu ?_
        | (refine wpAny_bind (m := callSpecialIfBound? (.ref x) (Str.ofString "__eq__") [b])
            (PySem.W.ifBound_K X I hs hf (wpAny_mono h (fun r s' hr => by
              obtain ⟨c, rfl, hq⟩ := hr
              repeat (first | exact ⟨_, rfl, hq⟩ | exact wpAny_pure ⟨_, rfl, hq⟩ | exact wpAny_pure (wpAny_pure ⟨_, rfl, hq⟩) | exact wpAny_truthy_bool hq | (refine wpAny_bind (m := truthy (.bool _)) (wpAny_truthy_bool ?_)) | wp_step)) fun _ _ e => e)))
        | wp_step)
    split
    · simp only [bnd]
      exact wpAny_bind (wpAny_pure (wpAny_pure fin))
    · simp only [bnd]
      exact wpAny_tryCatch (wpAny_bind (wpAny_pure (wpAny_pure fin)))
  unfold richCompare
  simp only [oneThing_ref]
  refine wpAny_holding (wpAny_bind (wpAny_cRoomFor (Nat.lt_of_succ_lt hu) ?_))
  refine wpAny_bind (I.type.here (wpAny_bind (hb.here ?_)))
  split
  · rename_i q
    have e : PySem.W.subIn K tb (.ref C) = some false := by
      rcases Bool.or_eq_true_iff.mp hn with e | e
      · rw [beq_iff_eq.mp e] at q; simp at q
      · exact beq_iff_eq.mp e
    refine wpAny_bind ((PySem.W.looks_subIn X e).here ?_)
    simp only [Bool.false_eq_true, if_false]
    refine wpAny_bind (wpAny_mono one (fun r s' z => ?_) fun _ _ e => e)
    obtain ⟨v, rfl, hq⟩ := z
    exact wpAny_pure hq
  · refine wpAny_bind (wpAny_pure ?_)
    simp only [Bool.false_eq_true, if_false]
    refine wpAny_bind (wpAny_mono one (fun r s' z => ?_) fun _ _ e => e)
    obtain ⟨v, rfl, hq⟩ := z
    exact wpAny_pure hq
/-- the class has no __ne__ of its own -/
structure NoNe (K : Frag) (C : Addr) : Prop where
  ne : PySem.W.findIn K (.ref C) "__ne__" = some (some (.builtin "object.__ne__"))
  cl : PySem.W.excInitIn K C [.type "object"] "object.__new__" = true
def rNeO (K : Frag) (C : Addr) (sp : Sp) (E : XK) : R2 := fun x y H Q => ∃ a dx fs k, x = .ref a ∧ H a = some (.ins C dx fs) ∧ Is K H y k ∧ PySem.W.notFirst K C k.ty = true ∧ sp [x, y] H (fun z H' => ∃ b, z = .bl b ∧ Q (.bl (!b)) H') E
theorem op_neO (hm : Meth X.K C "__eq__" f) (hne : NoNe X.K C) (F : FnB X.prog X.w X.K X.mg X.base k f sp) (hr : Rm j X.A) (hx : Passes (L2.CX X.prog X.w) X E) (hk : k + 1 ≤ j := by decide) : OpR X (compareOp .NotEq) (rNeO X.K C sp E) := by
  intro pins s σ H x y v u Q I rx ry h
  obtain ⟨a, dx, fs, kn, rfl, ha, hy, hn, q⟩ := h
  cases (show v = Value.ref a from rx)
  obtain ⟨mA, O, _⟩ := ins_get I.hok ha
  obtain ⟨od, J, _⟩ := O.look
  obtain ⟨m, hF⟩ := I.fr
  have hr1 : Rm (k + 1) X.A := hr.mono hk
  refine ne_K (tb := kn.ty) hr.hu hF I.ok.mod.kin J (looks_kn I ry hy _) hn hne.ne hne.cl hm.at_ hm.fn ?_
  refine wpAny_mono (wpAny_call (runB (us := [.ref a, u]) (vs := [.ref a, y]) F hr1.in1 I.env0.in1 hx I (.cons rfl (.cons ry .nil)) q)) (fun w s' z => ?_) fun _ _ x => x
  obtain ⟨z', H', I', rz, b, eb, qz⟩ := z
  subst eb
  cases (show w = Value.bool b from rz)
  exact ⟨b, rfl, .bl (!b), H', I', rfl, qz⟩
/-- repr(x), x an instance of C with its own __repr__ -/
def rRepr (C : Addr) (sp : Sp) (E : XK) : List V → Hp → VK → Prop := fun xs H Q => ∃ a dx fs, xs = [.ref a] ∧ H a = some (.ins C dx fs) ∧ sp [.ref a] H (fun z H' => ∃ y, z = .str y ∧ Q (.str y) H') E
theorem call_reprO (hm : Meth X.K C "__repr__" f) (G : FnB X.prog X.w X.K X.mg X.base k f sp) (hr : Rm j X.A) (hx : Passes (L2.CX X.prog X.w) X E) (hk : k + 1 ≤ j := by decide) : CallR X (.builtin "repr") (rRepr C sp E) := by
  intro pins s σ H xs us Q I r h
  obtain ⟨a, dx, fs, rfl, ha, q⟩ := h
  obtain ⟨u, rfl, ru⟩ := r.one
  cases (show u = Value.ref a from ru)
  obtain ⟨mA, O, _⟩ := ins_get I.hok ha
  obtain ⟨od, J, _⟩ := O.look
  have hr1 : Rm (k + 1) X.A := hr.mono hk
  refine Calls.call_function_entry F.kind_repr F.plain_repr F.entry_repr (F.args_repr1 _) ?_
  unfold Builtin.«repr»
  refine wpAny_bind (m := oneArg "repr" _) (wpAny_pure ?_)
  refine wpAny_bind (wpAny_cRoomFor (by exact hr.hu) ?_)
  refine wpAny_bind (wpAny_bind (J.type.here ((PySem.W.looks_findIn I.kIn hm.at_).here ?_)))
  refine wpAny_bind (m := callSpecialIfBound? (.ref a) (Str.ofString "__repr__")) (PySem.W.ifBound_K I.kIn J hm.at_ hm.fn (wpAny_mono (wpAny_call (runB (us := [.ref a]) (vs := [.ref a]) G hr1.in1 I.env0.in1 hx I (.cons rfl .nil) q)) (fun w s' z => ?_) fun _ _ x => x))
  obtain ⟨z', H', I', rz, y, ey, qz⟩ := z
  subst ey
  obtain ⟨t, e⟩ := (show ∃ t, w = Value.str y t from rz)
  subst e
  refine wpAny_bind (wpAny_isInstance (T := "str") (b := true) rfl isSubtype_str_str ?_)
  exact wpAny_pure ⟨_, rfl, .str y, H', I', ⟨t, rfl⟩, qz⟩
/-- f(e, ..), f a slot that holds an instance of C with its own __call__ -/
def tCoF (C : Addr) (sp : Sp) (E : XK) (tf : TE) (t : TA) : TE := fun σ H Q => tf σ H fun y H1 => ∃ a, y = V.ref a ∧ t σ H1 fun vs H2 => (∃ dx fs, H2 a = some (.ins C dx fs)) ∧ sp (V.ref a :: vs) H2 Q E
theorem pe_coF {fe e : Expr} {es : List Expr} {tf : TE} {t : TA} {pos : Pos} (hf : PE X fe tf) (hm : Meth X.K C "__call__" f) (hi : PySem.W.fnIn X.K f = true) (G : FnB X.prog X.w X.K X.mg X.base k f sp) (hr : Rm j X.A) (hx : Passes (L2.CX X.prog X.w) X E) (ha : PA X (e :: es) t) (hk : k ≤ j := by decide)
    (ht : eval (.Call fe (e :: es) [] pos) X.env = (do callWith pos (← eval fe X.env) [] (backTo pos (starEach (e :: es) X.env)) (backToKw pos (keywordEach [] X.env))) := by rfl)
    (he : starEach (e :: es) X.env = (false, eval e X.env) :: starEach es X.env := by rfl) (hpl : (backTo pos (starEach es X.env)).any (·.1) = false := by rfl) : PE X (.Call fe (e :: es) [] pos) (tCoF C sp E tf t) := by
  refine ⟨fun pins s σ H Q I h => ?_⟩
  refine Call_ (thn (hf.run pins s σ H _ I h) fun u s1 ⟨y, H1, I1, ry, a, ey, q⟩ => ?_) ht
  subst ey
  cases (show u = Value.ref a from ry)
  refine StX.callO_with (thn (ha.run pos pins s1 σ H1 _ I1 q) fun us s2 ⟨vs, H2, I2, r, ⟨dx, fs, hi2⟩, q2⟩ => ?_) he hpl
  obtain ⟨ox, od, J, hd⟩ := StX.insC_at (C := C) I2 (.inr ⟨dx, fs, hi2⟩)
  exact ⟨⟨C, ox, od, J, hd⟩, wpAny_call (PySem.W.kco_code I2.kIn J hd hm.at_ hm.fn hi (runB (us := .ref a :: us) (vs := .ref a :: vs) G (hr.mono hk) I2.env0 hx I2 (.cons rfl r) q2))⟩
/-- text * int -/
def rMulS : R2 := fun x y H Q => ∃ (z : Str) (n : Nat), x = .str z ∧ y = .int n ∧ z.length * n ≤ 1000000 ∧ z.length ≤ 1000000 ∧ n ≤ 1000000 ∧ Q (.str (Txt.mul z n)) H
theorem op_rep_str : OpR X (binaryOp .Mult) rMulS := by
  intro pins s σ H x y v u Q I rx ry h
  obtain ⟨z, n, rfl, rfl, h1, h2, h3, q⟩ := h
  obtain ⟨t, e⟩ := (show ∃ t, v = Value.str z t from rx)
  obtain ⟨t', e'⟩ := (show ∃ t, u = Value.int n t from ry)
  subst e
  subst e'
  refine SB.mul ⟨?_, ?_, ?_⟩ fun t' k => ⟨.str _, H, I.tok _, ⟨_, rfl⟩, q⟩
  · have a1 : ¬ ((n : Int) < -(2 ^ 63 : Int)) := by omega
    have a2 : ¬ ((n : Int) ≥ 2 ^ 63) := by omega
    rw [decide_eq_false a1, decide_eq_false a2]
    rfl
  · intro _ _ hgt
    have h4 : (1000000 : Int) ≤ (2 ^ 63 - 1) / (n : Int) := by
      refine Int.le_ediv_of_mul_le (by omega) ?_
      have : (1000000 : Int) * n ≤ 1000000 * 1000000 := Int.mul_le_mul_of_nonneg_left (by omega) (by omega)
      omega
    omega
  · intro _ _
    show decide (z.length * (n : Int).toNat > sizeLine) = false
    rw [Int.toNat_natCast]
    exact decide_eq_false (by rw [sizeLine_eq]; omega)
end
end Ah

/-! more facts for the head -/
namespace Ah
open PySem PySem.Spec PyProof.Rows L2 He
def all7 : List String := ["NoneType", "int", "bool", "str", "list", "tuple", "dict"]
def ownCB (C : Str) (K : Frag) : Bool :=
  eqO (PySem.W.findIn K (.ref (ga K C)) "__class__") (some (some (.builtin "object.__class__"))) &&
  (eqO (PySem.W.specialIn K (.builtin "object.__class__") "__get__") (some (some (.builtin "getset_descriptor.__get__"))) &&
  (decide (PySem.W.takesIn K (.builtin "object.__class__") = some true) && (decide (PySem.W.mroIn K (ga K C) (.type "object") = some true) &&
  (bTys.all fun T => decide (PySem.W.kitOne K (.ref (ga K C)) (.type T) = some false)))))
theorem ownC_ok {C : Str} {K : Frag} (c : Cls K (ga K C)) (h : ownCB C K = true) : OwnC K (ga K C) := by
  unfold ownCB at h
  obtain ⟨h1, h⟩ := ba h
  obtain ⟨h2, h⟩ := ba h
  obtain ⟨h3, h⟩ := ba h
  obtain ⟨h4, h⟩ := ba h
  exact ⟨c, eqO_ok h1, eqO_ok h2, of_decide_eq_true h3, of_decide_eq_true h4, fun T hT => of_decide_eq_true (List.all_eq_true.mp h T hT)⟩
def ownKB (C : Str) (K : Frag) : Bool := all7.all fun T => decide (PySem.W.kitOne K (.type T) (.ref (ga K C)) = some false)
theorem ownK_ok {C : Str} {K : Frag} (h : ownKB C K = true) : OwnK K (ga K C) := ⟨fun T hT => of_decide_eq_true (List.all_eq_true.mp h T hT)⟩
def firstB (C : Str) (K : Frag) : Bool := all7.all fun T => PySem.W.notFirst K (ga K C) (.type T)
theorem first_ok {C : Str} {K : Frag} (h : firstB C K = true) : ∀ T ∈ all7, PySem.W.notFirst K (ga K C) (.type T) = true := fun T hT => List.all_eq_true.mp h T hT
def noNeB (C : Str) (K : Frag) : Bool := eqO (PySem.W.findIn K (.ref (ga K C)) "__ne__") (some (some (.builtin "object.__ne__"))) && PySem.W.excInitIn K (ga K C) [.type "object"] "object.__new__"
theorem noNe_ok {C : Str} {K : Frag} (h : noNeB C K = true) : NoNe K (ga K C) := by
  obtain ⟨h1, h2⟩ := ba h
  exact ⟨eqO_ok h1, h2⟩
def fnInB (C m : Str) (K : Frag) : Bool := PySem.W.fnIn K (ma K (ga K C) m)
/-- a value that is no instance, or one of the class C itself, does not come first in a comparison with an instance of C -/
theorem first_of {K : Frag} {H : Hp} {C : Addr} {x : V} {k : Kn} (hf : ∀ T ∈ all7, PySem.W.notFirst K C (.type T) = true) (h : Is K H x k) (hC : ∀ a D, k = .ins a D → D = C) : PySem.W.notFirst K C k.ty = true := by
  cases h with
  | @ins a D dx fs e c =>
    cases hC a D rfl
    simp [Kn.ty, PySem.W.notFirst]
  | int i => exact hf _ (by decide)
  | bl i => exact hf _ (by decide)
  | str i => exact hf _ (by decide)
  | non => exact hf _ (by decide)
  | lst i => exact hf _ (by decide)
  | tup i => exact hf _ (by decide)
  | dct i => exact hf _ (by decide)
/-! heaps -/
/-- all but a stands as it stood -/
def Ex (a : Addr) (H H' : Hp) : Prop := ∀ b o, b ≠ a → H b = some o → H' b = some o
theorem Ex.refl {a : Addr} {H : Hp} : Ex a H H := fun _ _ _ h => h
theorem Ex.of_same {a : Addr} {H H' : Hp} (s : Same H H') : Ex a H H' := fun b o _ h => s b o h
theorem Ex.trans {a : Addr} {H H1 H2 : Hp} (x : Ex a H H1) (y : Ex a H1 H2) : Ex a H H2 := fun b o n h => y b o n (x b o n h)
theorem Ex.upd {a : Addr} {H H' : Hp} {o : HO} (x : Ex a H H') : Ex a H (L2.upd H' a o) := fun b o' n h => by
  rw [upd_ne n]
  exact x b o' n h
theorem Ex.new {a p : Addr} {H H' : Hp} {o : HO} (x : Ex a H H') (hp : H' p = none) : Ex a H (L2.upd H' p o) := fun b o' n h => upd_keep (x b o' n h) hp
/-- a new place stays new behind -/
theorem Ex.same_free {a : Addr} {H H1 H2 : Hp} (s : Same H H1) (ha : H a = none) (x : Ex a H1 H2) : Same H H2 := fun b o h => x b o (ne_of_none h ha) (s b o h)
end Ah

/-! comprehensions and loops -/
namespace Ah
open PySem PySem.Spec PyProof.Rows L2 He
theorem range_map_succ {α : Type} (f : Nat → α) (n : Nat) : (List.range (n + 1)).map f = (List.range n).map f ++ [f n] := by
  rw [List.range_succ, List.map_append]
  rfl
/-- a comprehension whose element hands back a value and changes nothing that stood: [f 0, .., f (n - 1)] -/
theorem lc_pure {J : It} {n : Nat} {G : Hp → Prop} {Y : Nat → Hp → V → Hp → Prop} (w : Walk J n G Y) {k : Nat} {te : TE} {vs : List Nat} {σ : L2.St} {H1 : Hp} {Qd : Hp → Prop} {D : Addr} (f it : Nat → V) (hn : n ≤ 1000000) (hD : H1 D = none)
    (hG : ∀ H', Same H1 H' → G H') (hY : ∀ i H x H', i < n → Y i H x H' → H' = H ∧ x = it i) (hw : ∀ i, wipe ((wipe σ vs).set k (some (it i))) vs = wipe σ vs)
    (he : ∀ i, i < n → ∀ H' Q', Same H1 H' → (∀ H'', Same H' H'' → Q' (f i) H'') → te ((wipe σ vs).set k (some (it i))) H' Q')
    (hq : ∀ H', Same H1 H' → H' D = some (.lst ((List.range n).map f)) → Qd H') :
    ∃ W : Nat → Nat → Hp → Prop, (∃ m, W 0 m (upd H1 D (.lst []))) ∧ ∀ i m H, W i m H →
      (J.stop i H ∧ Qd H) ∨ (J.go i H ∧ ∃ Nx : Hp → Prop, (∀ H', Nx H' → ∃ m', m' < m ∧ W (i + 1) m' H') ∧ ∀ x H', J.yld i H x H' → gName k x (wipe σ vs) H' fun σ2 H2 => wipe σ2 vs = wipe σ vs ∧ tYes σ2 H2 fun b H3 =>
        if b = true then te σ2 H3 fun y H4 => ∃ acc, H4 D = some (.lst acc) ∧ acc.length < sizeLine ∧ Nx (upd H4 D (.lst (acc ++ [y]))) else Nx H3) := by
  refine lc_it w (fun i H' => Same H1 H' ∧ H' D = some (.lst ((List.range i).map f))) ⟨fun b o e => upd_keep e hD, upd_same⟩ (fun i H' _ p => hG H' p.1) ?_ fun H' p => hq H' p.1 p.2
  intro i x H H' hi p y
  obtain ⟨rfl, rfl⟩ := hY i H x H' hi y
  refine ⟨hw i, ?_⟩
  dsimp only [tYes]
  rw [if_pos rfl]
  refine he i hi _ _ p.1 fun H'' s => ⟨_, s _ _ p.2, ?_, ?_, ?_⟩
  · rw [List.length_map, List.length_range, sizeLine_eq]
    omega
  · intro b o e
    rw [upd_ne (ne_of_none e hD)]
    exact s b o (p.1 b o e)
  · rw [upd_same, range_map_succ]
theorem yStr {z : Str} (i : Nat) (H : Hp) (x : V) (H' : Hp) (y : H' = H ∧ ∃ c, z.cps[i]? = some c ∧ x = .str ⟨#[c]⟩) : H' = H ∧ x = .str ⟨#[z.cps.toList.getD i 0]⟩ := by
  obtain ⟨e, c, hc, rfl⟩ := y
  refine ⟨e, ?_⟩
  have : z.cps.toList[i]? = some c := by simpa using hc
  rw [List.getD_eq_getElem?_getD, this]
  rfl
theorem map_getD_range {α β : Type} (l : List α) (d : α) (g : α → β) : (List.range l.length).map (fun i => g (l.getD i d)) = l.map g := by
  apply List.ext_getElem?
  intro i
  rw [List.getElem?_map, List.getElem?_map]
  by_cases h : i < l.length
  · rw [List.getElem?_range h]
    simp [List.getD_eq_getElem?_getD, h]
  · simp [h]
/-- a new list of values: the walk over a text -/
theorem cps_len (z : Str) : z.cps.size = z.cps.toList.length := by simp
end Ah
namespace Ah
open PySem PySem.Spec PyProof.Rows L2 He
/-! keys -/
def chars : Str := "abcdefghijklmnopqrstuvwxyz0123456789"
def charsL : List Nat := [97, 98, 99, 100, 101, 102, 103, 104, 105, 106, 107, 108, 109, 110, 111, 112, 113, 114, 115, 116, 117, 118, 119, 120, 121, 122, 48, 49, 50, 51, 52, 53, 54, 55, 56, 57]
theorem chars_eq : chars.cps.toList = charsL := by decide +kernel
theorem charsL_small : ∀ c, c < 128 → decide (c ∈ charsL) = keySign c := by decide +kernel
theorem charsL_max : ∀ c ∈ charsL, c < 128 := by decide +kernel
theorem chars_mem (c : Nat) : decide (c ∈ chars.cps.toList) = keySign c := by
  rw [chars_eq]
  by_cases h : c < 128
  · exact charsL_small c h
  · rw [decide_eq_false fun z => h (charsL_max c z)]
    unfold keySign
    rw [decide_eq_false (by omega : ¬ c ≤ 122), decide_eq_false (by omega : ¬ c ≤ 57)]
    simp
theorem str_len (z : Str) : z.length = z.cps.toList.length := by simp [Str.length]
/-- the mix of a key -/
def mixL (b n : Int) (l : List Nat) : Int := l.foldl (fun (h : Int) (c : Nat) => (h * b + (c : Int)) % 2 ^ n.toNat) 0
theorem mixL_snoc (b n : Int) (l : List Nat) (c : Nat) : mixL b n (l ++ [c]) = (mixL b n l * b + (c : Int)) % 2 ^ n.toNat := by
  unfold mixL
  rw [List.foldl_append]
  rfl
theorem pow_pos2 (n : Nat) : (0 : Int) < 2 ^ n := by
  have h : (0 : Int) < ((2 ^ n : Nat) : Int) := Int.natCast_pos.mpr (Nat.two_pow_pos n)
  rw [Int.natCast_pow] at h
  exact h
theorem mixL_range (b n : Int) (l : List Nat) : 0 ≤ mixL b n l ∧ mixL b n l < 2 ^ n.toNat := by
  rcases List.eq_nil_or_concat l with h | ⟨m, c, h⟩
  · subst h
    exact ⟨Int.le_refl 0, pow_pos2 _⟩
  · rw [List.concat_eq_append] at h
    subst h
    rw [mixL_snoc]
    exact ⟨Int.emod_nonneg _ (Int.ne_of_gt (pow_pos2 _)), Int.emod_lt_of_pos _ (pow_pos2 _)⟩
theorem pow32 {n : Int} (h : n ≤ 32) : (2 : Int) ^ n.toNat ≤ 4294967296 := by
  have h1 : n.toNat ≤ 32 := by omega
  have h2 : (2 ^ n.toNat : Nat) ≤ 2 ^ 32 := Nat.pow_le_pow_right (by decide) h1
  have h3 : ((2 ^ n.toNat : Nat) : Int) ≤ ((2 ^ 32 : Nat) : Int) := Int.ofNat_le.mpr h2
  rw [Int.natCast_pow] at h3
  exact h3
theorem take_more {α : Type} {l : List α} {i : Nat} {x : α} (h : l[i]? = some x) : l.take (i + 1) = l.take i ++ [x] := by
  rw [List.take_succ, h]
  rfl
theorem key_small {z : Str} (h : isKeyL z.cps.toList = true) : (Kn.str z).small := by
  unfold isKeyL at h
  show z.length ≤ 1000000
  rw [str_len]
  simp at h
  rw [Array.length_toList]
  omega
end Ah

/-! fields, pools -/
namespace Ah
open PySem PySem.Spec PyProof.Rows L2 He
theorem look0 {f : Str} {v : V} {r : List (Str × V)} : List.lookup f ((f, v) :: r) = some v := by simp [List.lookup]
theorem lookS {f g : Str} {w : V} {r : List (Str × V)} (h : f ≠ g) : List.lookup f ((g, w) :: r) = List.lookup f r := by
  have e : (f == g) = false := by simpa using h
  simp [List.lookup, e]
theorem putF0 {f : Str} {v : V} : putF f v [] = [(f, v)] := rfl
theorem putF_hit {f : Str} {v w : V} {r : List (Str × V)} : putF f v ((f, w) :: r) = (f, v) :: r := by
  show (if f = f then _ else _) = _
  rw [if_pos rfl]
theorem putFS {f g : Str} {v w : V} {r : List (Str × V)} (h : g ≠ f) : putF f v ((g, w) :: r) = (g, w) :: putF f v r := by
  show (if g = f then _ else _) = _
  rw [if_neg h]
end Ah
namespace Ah
open PySem PySem.Spec PyProof.Rows L2 He
theorem ixL {K : Frag} {H : Hp} {a : Addr} {xs : List V} {i : Int} {v : V} {Q : VK} (h : SqL K H a xs) (e : atI xs i = some v) (q : Q v H) : rIxL K (.ref a) (.int i) H Q := ⟨a, xs, i, v, rfl, rfl, h, e, q⟩
theorem ixT {K : Frag} {H : Hp} {a : Addr} {xs : List V} {i : Int} {v : V} {Q : VK} (h : SqT K H a xs) (e : atI xs i = some v) (q : Q v H) : rIxT K (.ref a) (.int i) H Q := ⟨a, xs, i, v, rfl, rfl, h, e, q⟩
theorem setL {H : Hp} {a : Addr} {xs : List V} {i : Int} {j : Nat} {v : V} {Q : Hp → Prop} (h : H a = some (.lst xs)) (e : ixN xs.length i = some j) (q : Q (upd H a (.lst (xs.set j v)))) : rSetL (.ref a) (.int i) v H Q := ⟨a, xs, i, j, rfl, rfl, h, e, q⟩
theorem head_int (l : List Int) : ∃ i, atI (l.map V.int ++ [V.int 0]) 0 = some (V.int i) := by
  cases l with
  | nil => exact ⟨0, rfl⟩
  | cons x r =>
    refine ⟨x, ?_⟩
    unfold atI
    have e : ixN ((List.map V.int (x :: r) ++ [V.int 0]).length) 0 = some 0 := by
      simp [ixN]
      omega
    rw [e]
    rfl
theorem cutV_int (l : List Int) (lo hi : Option Int) : ∃ l' : List Int, cutV (l.map V.int) lo hi = l'.map V.int ∧ l'.length ≤ l.length := by
  refine ⟨(l.drop (HT.sIx (l.map V.int).length 0 lo)).take (HT.sIx (l.map V.int).length (l.map V.int).length hi - HT.sIx (l.map V.int).length 0 lo), ?_, ?_⟩
  · unfold cutV
    rw [List.map_take, List.map_drop]
  · rw [List.length_take, List.length_drop]
    omega
end Ah

/-! data compared -/
namespace Ah
open PySem PySem.Spec PyProof.Rows L2 He
theorem neD_same {K : Frag} {H : Hp} {x y : V} {Q : VK} (d : PyData) (hx : Dp K H x d) (hy : Dp K H y d) (hs : SeqAt.shaped d = true) (q : Q (.bl false) H) : rNeD K x y H Q := by
  refine ⟨d, d, hx, hy, hs, hs, ?_⟩
  rw [SeqAt.eqv_refl d (SeqAt.canLay_of_shaped hs)]
  exact q
theorem eqD_same {K : Frag} {H : Hp} {x y : V} {Q : VK} (d : PyData) (hx : Dp K H x d) (hy : Dp K H y d) (hs : SeqAt.shaped d = true) (q : Q (.bl true) H) : rEqD K x y H Q := by
  refine ⟨d, d, hx, hy, hs, hs, ?_⟩
  rw [SeqAt.eqv_refl d (SeqAt.canLay_of_shaped hs)]
  exact q
theorem dpInts {K : Frag} {H : Hp} : ∀ ns : List Int, DpAll K H (ns.map V.int) (ns.map PyData.int)
  | [] => .nil
  | n :: r => .cons (.int n) (dpInts r)
theorem shaped_ints (ns : List Int) : SeqAt.shaped (.list (ns.map PyData.int)) = true := by
  have h1 : ∀ ns : List Int, PyData.canLayAll0 (ns.map PyData.int) = true := by
    intro ns
    induction ns with
    | nil => rfl
    | cons n r ih => exact Bool.and_eq_true_iff.mpr ⟨rfl, ih⟩
  have h2 : ∀ ns : List Int, PyData.depthAll (ns.map PyData.int) = 0 := by
    intro ns
    induction ns with
    | nil => rfl
    | cons n r ih =>
      show max 0 (PyData.depthAll (r.map PyData.int)) = 0
      rw [ih]
      rfl
  refine Bool.and_eq_true_iff.mpr ⟨h1 ns, decide_eq_true ?_⟩
  show PyData.depthAll (ns.map PyData.int) + 1 ≤ 64
  rw [h2]
  decide
/-- two lists of the same ints -/
theorem neInts {K : Frag} {H : Hp} {p r : Addr} {Q : VK} (ns : List Int) (h1 : H p = some (.lst (ns.map V.int))) (h2 : H r = some (.lst (ns.map V.int))) (q : Q (.bl false) H) : rNeD K (.ref p) (.ref r) H Q :=
  neD_same (.list (ns.map PyData.int)) (.lst (SqL.of h1) (dpInts ns)) (.lst (SqL.of h2) (dpInts ns)) (shaped_ints ns) q
theorem strOk_key {z : Str} (h : isKeyL z.cps.toList = true) : PyData.strOk z = true := by
  unfold isKeyL at h
  have h3 := (Bool.and_eq_true_iff.mp h).2
  unfold PyData.strOk
  rw [← Array.all_toList]
  refine List.all_eq_true.mpr fun c hc => ?_
  have := List.all_eq_true.mp h3 c hc
  unfold keySign at this
  simp at this
  exact decide_eq_true (by omega)
/-- two tuples of one int and one text -/
theorem nePlace {K : Frag} {H : Hp} {p r : Addr} {Q : VK} {i : Int} {z : Str} (hz : PyData.strOk z = true) (h1 : H p = some (.tup [.int i, .str z])) (h2 : H r = some (.tup [.int i, .str z])) (q : Q (.bl false) H) : rNeD K (.ref p) (.ref r) H Q := by
  refine neD_same (.tuple [.int i, .str z]) (.tup (SqT.of h1) (.cons (.int i) (.cons (.str z) .nil))) (.tup (SqT.of h2) (.cons (.int i) (.cons (.str z) .nil))) ?_ q
  refine Bool.and_eq_true_iff.mpr ⟨?_, decide_eq_true (show max 0 (max 0 0) + 1 ≤ 64 by decide)⟩
  show (true && (PyData.strOk z && true)) = true
  rw [hz]
  rfl
end Ah
namespace Ah
open PySem PySem.Spec PyProof.Rows L2 He
theorem iteF' {c : Bool} {A B : Prop} (h : c = false) (hb : B) : if c = true then A else B := by
  rw [h]
  exact iteF hb
theorem iteT' {c : Bool} {A B : Prop} (h : c = true) (ha : A) : if c = true then A else B := by
  rw [h]
  exact iteT ha
/-- a pool of a law: a list of two ints -/
def PoolAt (H : Hp) (a : Addr) : Prop := ∃ p q : Int, H a = some (.lst [.int p, .int q])
theorem PoolAt.same {H H' : Hp} {a : Addr} (h : PoolAt H a) (s : Same H H') : PoolAt H' a := by
  obtain ⟨p, q, h⟩ := h
  exact ⟨p, q, s _ _ h⟩
theorem PoolAt.ne {H : Hp} {a b : Addr} (h : PoolAt H a) (hb : H b = none) : b ≠ a := by
  obtain ⟨p, q, h⟩ := h
  exact (ne_of_none h hb).symm
theorem tl_app (x y : Str) : (x ++ y).cps.toList = x.cps.toList ++ y.cps.toList := TL.tl_append x y
theorem notKey_snoc {x y : Str} {c : Nat} (h : y.cps.toList = [c]) (hc : keySign c = false) : isKeyL (x ++ y).cps.toList = false := by
  rw [tl_app, h]
  unfold isKeyL
  rw [List.all_append]
  have : ([c].all keySign) = false := by simp [hc]
  rw [this]
  simp
theorem notKey_long {x y : Str} (h : 20 ≤ y.cps.toList.length) (hx : 1 ≤ x.cps.toList.length) : isKeyL (x ++ y).cps.toList = false := by
  rw [tl_app]
  unfold isKeyL
  rw [decide_eq_false (p := (x.cps.toList ++ y.cps.toList).length ≤ 20) (by rw [List.length_append]; omega)]
  simp
theorem key_len {l : List Nat} (h : isKeyL l = true) : 1 ≤ l.length ∧ l.length ≤ 20 := by
  unfold isKeyL at h
  simp at h
  omega
theorem slice_to_len (z : Str) (n : Nat) : (Txt.slice z none (some (n : Int))).length ≤ z.length := by
  have e : z = SX.S z.cps.toList := (SX.S_tl z).symm
  rw [e, SX.slice_to (Int.natCast_nonneg n), SX.S_len, SX.S_len, List.length_take]
  omega
theorem str_small {z : Str} {n : Nat} (h : z.length ≤ n) (hn : n ≤ 1000000) : (Kn.str z).small := Nat.le_trans h hn
end Ah

/-! exceptions of the program's own over ValueError, with one or two fields -/
namespace Ah
open PySem PySem.Spec PyProof.Rows L2 He
def oexB (C : Str) (K : Frag) : Bool :=
  (match K.lookup (ga K C) with
    | some ⟨.type "type", _, .cls cd, sl⟩ => (match cd.mro, sl.toList with
      | .ref C' :: bm, [_, _, _, _, some (.builtin n), _] => C' == ga K C && (n == "ValueError.__new__" && (!cd.hasDel && (cd.hasDict && PySem.HandSPX.refsVE bm)))
      | _, _ => false)
    | _ => false) &&
  (eqO (PySem.W.findIn K (.ref (ga K C)) "__setattr__") (some (some (.builtin "object.__setattr__"))) &&
  (decide (PySem.W.subIn K (.ref (ga K C)) (.type "BaseException") = some true) && (decide (PySem.W.typeIn K (.ref (ga K C)) = some (.type "type")) && PySem.W.keepIn K (.ref (ga K C)))))
theorem oex_ok {C : Str} {K : Frag} (h : oexB C K = true) : OexC K (ga K C) := by
  unfold oexB at h
  obtain ⟨h0, h⟩ := ba h
  obtain ⟨h1, h⟩ := ba h
  obtain ⟨h2, h⟩ := ba h
  obtain ⟨h3, h4⟩ := ba h
  refine ⟨?_, eqO_ok h1, of_decide_eq_true h2, of_decide_eq_true h3, h4⟩
  split at h0
  · rename_i dd cd sl ho
    split at h0
    · rename_i C' bm k0 k1 k2 k3 n k5 hm hsl
      obtain ⟨e1, h0⟩ := ba h0
      obtain ⟨e2, h0⟩ := ba h0
      obtain ⟨e3, h0⟩ := ba h0
      obtain ⟨e4, e5⟩ := ba h0
      have e1' : C' = ga K C := beq_iff_eq.mp e1
      have e2' : n = "ValueError.__new__" := beq_iff_eq.mp e2
      subst e1' e2'
      obtain ⟨nm, bs, mro, ns, qn, hd, sn, sb, ab, col, del⟩ := cd
      dsimp only at hm e3 e4
      subst hm
      have e3' : del = false := by simpa using e3
      have e4' : hd = true := e4
      subst e3' e4'
      have es : sl = #[k0, k1, k2, k3, some (.builtin "ValueError.__new__"), k5] := by
        apply Array.ext'
        rw [hsl]
      subst es
      exact ⟨_, _, _, _, bm, _, _, _, _, _, _, _, _, _, _, ho, e5⟩
    · cases h0
  · cases h0
/-- what __init__ of a class with one field keeps -/
def spX1 (C : Addr) (f : Str) : Sp := fun vs H Q _ => ∃ (a : Addr) (v : V), vs = [.ref a, v] ∧ H a = some (exo a C none) ∧ ∀ dx, H dx = none → dx ≠ a → Q .non (upd (upd H dx (exd dx [(f, v)])) a (exo a C (some dx)))
def spX2 (C : Addr) (f g : Str) : Sp := fun vs H Q _ => ∃ (a : Addr) (v w : V), vs = [.ref a, v, w] ∧ H a = some (exo a C none) ∧ ∀ dx, H dx = none → dx ≠ a → Q .non (upd (upd (upd H dx (exd dx [(f, v)])) a (exo a C (some dx))) dx (exd dx [(g, w), (f, v)]))
/-- the def at f keeps sp, whatever is under way -/
structure FnU (P : Program) (w : World) (K : Frag) (mg : Str → Option Value) (base : Heap) (k : Nat) (f : Addr) (sp : Sp) : Prop where
  ex : ∃ fd ps, FnOk P w K mg base (L2.CX P w) k f fd ps sp ∧ Binds K fd ps []
theorem okU {P : Program} {w : World} {K : Frag} {mg : Str → Option Value} {base : Heap} {N ps : List Str} {k : Nat} {sp : Sp} {d : DefG} (S : Stands K d) (h0 : d.dfl = []) (sc : FnScope N ps d.scope) (len : ∀ vs H Q E, sp vs H Q E → vs.length = ps.length)
    (hb : ∀ (kV doc pm : Value) (an : Option Addr) (cdv ct : Value) (us : List Value), us.length = ps.length → bindArgs (PySem.W.fnOf d.name d.qual d.params d.body d.scope .none kV doc pm an cdv ct) ⟨us, []⟩ = pure (ps.zip us))
    (hbody : ∀ (cdv : Value) (A : Around) (outer : List Env) (s : Shared) (H : Hp) (vs : List V) (Q : VK) (E : XK), Room k (A.deeper (envOfC d.qual d.scope s.heap.objs.size (d.ad K) cdv)) → sp vs H Q E →
      ∃ t, PSs (cxOf (L2.CX P w) P w K mg base N d.qual d.scope (d.ad K) cdv A outer s H E) d.body t ∧ t { nx := fun _ H' => Q .non H', rt := Q } (L2.start N vs) H) : FnU P w K mg base (k + 1) (d.ad K) sp := by
  obtain ⟨fd, F⟩ := S
  have e : d.dvs K = [] := by unfold DefG.dvs; rw [h0]; rfl
  rw [e] at F
  exact ⟨⟨fd, ps, F.ok sc len hbody, F.bindsN hb⟩⟩
/-- the class as a raise asks it -/
structure ExcT (K : Frag) (mg : Str → Option Value) (C : Str) : Prop where
  g : mg C = some (.ref (ga K C))
  o : OexC K (ga K C)
  i : PySem.W.findIn K (.ref (ga K C)) "__init__" = some (some (.ref (ma K (ga K C) "__init__")))
  t : PySem.W.typeIn K (.ref (ma K (ga K C) "__init__")) = some (.type "function")
def excTB (C : Str) (K : Frag) : Bool := oexB C K && (eqO (PySem.W.findIn K (.ref (ga K C)) "__init__") (some (some (.ref (ma K (ga K C) "__init__")))) && decide (PySem.W.typeIn K (.ref (ma K (ga K C) "__init__")) = some (.type "function")))
theorem excT_ok {C : Str} {K : Frag} {mg : Str → Option Value} (g : mg C = some (.ref (ga K C))) (h : excTB C K = true) : ExcT K mg C := by
  obtain ⟨h1, h⟩ := ba h
  obtain ⟨h2, h3⟩ := ba h
  exact ⟨g, oex_ok h1, eqO_ok h2, of_decide_eq_true h3⟩
section
variable {X : Cx} {C : Str} {e : Expr} {es : List Expr} {ta : TA} {sp : Sp} {k j : Nat} {p pos pos2 : Pos} {W : WX}
/-- raise C(e, ..) -/
theorem ps_raiseC (hc : X.calm = true) (tk : Takes X W) (T : ExcT X.K X.mg C) (F : FnU X.prog X.w X.K X.mg X.base k (ma X.K (ga X.K C) "__init__") sp) (hr : Rm j X.A) (ha : PA X (e :: es) ta) (hk : k + 1 ≤ j := by decide) (hg : Gl X C := by rfl)
    (hdb : (C == ("__debug__" : Str)) = false := by decide) (he : starEach (e :: es) X.env = (false, eval e X.env) :: starEach es X.env := by rfl) (hpl : (backTo pos (starEach es X.env)).any (·.1) = false := by rfl) :
    PS X (.Raise (some (.Call (.Name C p) (e :: es) [] pos)) none pos2) (fun _ σ H => tMkO (ga X.K C) sp [] ta σ H fun cls d H' => W cls d σ H') := by
  obtain ⟨⟨fd, ps, G, b⟩⟩ := F
  exact ps_raise hc tk (pmk_oex T.o T.i T.t G (hr.r.mono hk) b .nil passL hg T.g ha hdb he hpl)
end
section
variable {K : Frag} {C : Addr} {f g : Str} {v w : V} {H : Hp} {Q : XK}
theorem exd_not {d : Addr} {fs : List (Str × V)} {o : HO} (h : o = exd d fs) : o = exd d fs := h
/-- what a made error with one field leaves: its dict, new -/
theorem mkX1 (q : ∀ d, H d = none → Q (.ref C) (some d) (upd H d (.xd [(f, v)]))) (a : Addr) (ha : H a = none) : spX1 C f [.ref a, v] (upd H a (exo a C none))
    (fun x H2 => x = .non ∧ ∃ (d : Addr) (fs : List (Str × V)), H2 a = some (exo a C (some d)) ∧ H2 d = some (exd d fs) ∧ H d = none ∧ Q (.ref C) (some d) (upd (del H2 a) d (.xd fs))) fun _ _ _ => False := by
  refine ⟨a, v, rfl, upd_same, fun dx hd ne => ⟨rfl, dx, [(f, v)], upd_same, by rw [upd_ne ne, upd_same], by rw [upd_ne ne] at hd; exact hd, ?_⟩⟩
  rw [upd_ne ne] at hd
  have e : upd (del (upd (upd (upd H a (exo a C none)) dx (exd dx [(f, v)])) a (exo a C (some dx))) a) dx (.xd [(f, v)]) = upd H dx (.xd [(f, v)]) := by
    funext b
    by_cases h1 : b = dx
    · rw [h1, upd_same, upd_same]
    · rw [upd_ne h1, upd_ne h1]
      by_cases h2 : b = a
      · rw [h2, del_same, ha]
      · rw [del_ne h2, upd_ne h2, upd_ne h1, upd_ne h2]
  rw [e]
  exact q dx hd
theorem mkX2 (q : ∀ d, H d = none → Q (.ref C) (some d) (upd H d (.xd [(g, w), (f, v)]))) (a : Addr) (ha : H a = none) : spX2 C f g [.ref a, v, w] (upd H a (exo a C none))
    (fun x H2 => x = .non ∧ ∃ (d : Addr) (fs : List (Str × V)), H2 a = some (exo a C (some d)) ∧ H2 d = some (exd d fs) ∧ H d = none ∧ Q (.ref C) (some d) (upd (del H2 a) d (.xd fs))) fun _ _ _ => False := by
  refine ⟨a, v, w, rfl, upd_same, fun dx hd ne => ⟨rfl, dx, [(g, w), (f, v)], by rw [upd_ne ne.symm, upd_same], upd_same, by rw [upd_ne ne] at hd; exact hd, ?_⟩⟩
  rw [upd_ne ne] at hd
  have e : upd (del (upd (upd (upd (upd H a (exo a C none)) dx (exd dx [(f, v)])) a (exo a C (some dx))) dx (exd dx [(g, w), (f, v)])) a) dx (.xd [(g, w), (f, v)]) = upd H dx (.xd [(g, w), (f, v)]) := by
    funext b
    by_cases h1 : b = dx
    · rw [h1, upd_same, upd_same]
    · rw [upd_ne h1, upd_ne h1]
      by_cases h2 : b = a
      · rw [h2, del_same, ha]
      · rw [del_ne h2, upd_ne h1, upd_ne h2, upd_ne h1, upd_ne h2]
  rw [e]
  exact q dx hd
end
end Ah

/-! try with several clauses 'except x as n' -/
namespace Ah
open PySem PySem.Spec PyProof.Rows L2 He
/-- a clause: its class, the slot of its name, the reading of its suite -/
structure Clause where
  c : Value
  i : Nat
  ts : Addr → Value → Option Addr → TS
/-- what a suite wishes behind itself: the clause's name is gone -/
def goneD (D : Ends) (i : Nat) : Ends := { nx := fun σ H => D.nx (σ.set i none) H, rt := D.rt, bk := fun σ H => D.bk (σ.set i none) H, ct := fun σ H => D.ct (σ.set i none) H }
/-- what the clauses wish of an exception of the body -/
def wCls (K : Frag) (Wout : WX) (D : Ends) : List Clause → WX
  | [] => Wout
  | k :: r => fun cls d σ H => ∃ b, PySem.W.exmOne K cls k.c = some b ∧ (b = true → ∀ a, H a = none → k.ts a cls d (goneD D k.i) (σ.set k.i (some (.ref a))) H) ∧ (b = false → wCls K Wout D r cls d σ H)
inductive HdA (X : Cx) : List ExceptHandler → List Clause → Prop
  | nil : HdA X [] []
  | cons {x n : Str} {k : Clause} {b₀ : Stmt} {suite : List Stmt} {np pos' : Pos} {hds : List ExceptHandler} {l : List Clause} (hc : Names X x k.c) (hi : X.N[k.i]? = some n) (hln : X.env.kindOf n = some .local)
      (hsu : ∀ (a : Addr) (oe : Obj) (cls : Value) (d : Option Addr) (pn : List (Addr × Obj)), Zc cls d oe → (∃ vs, oe.data = .fields vs) → PSs (X.suite a ((a, oe) :: pn)) (b₀ :: suite) (k.ts a cls d)) (r : HdA X hds l) :
      HdA X (.ExceptHandler (some (.Name x np)) (some n) (b₀ :: suite) pos' :: hds) (k :: l)
theorem takes_none {X : Cx} : Takes X (fun _ _ _ _ => False) := fun _ _ ⟨_, _, _, _, _, _, _, _, _, _, _, _, _, _, _, _, w⟩ => w.elim
section
variable {X : Cx} {body : List Stmt} {h₀ : ExceptHandler} {hds : List ExceptHandler} {l : List Clause} {pos : Pos} {tb : WX → TS} {Wout : WX}
theorem ps_tryA (hs : X.stack = X.env :: X.outer) (hf : X.env.frame = some X.env.locals) (hN : X.N.Nodup) (tk : Takes X Wout)
    (hb : ∀ (W : WX) (pn : List (Addr × Obj)) (xe : Value → Shared → Prop), Takes (X.tr pn xe) W → PassesOwn (model X.prog X.w) X.A X.env xe → PSs (X.tr pn xe) body (tb W))
    (hh : HdA X (h₀ :: hds) l) : PS X (.Try body (h₀ :: hds) [] [] pos) (fun D σ H => tb (fun cls d σ' H' => σ'.length = X.N.length → wCls X.K Wout D l cls d σ' H') D σ H) := by
  refine ⟨fun pins s σ H D I h => wpAny_Try_except ?_⟩
  have ok := I.ok
  have hfr : X.A.frames = some (X.env :: X.outer) := by rw [ok.frames, hs]
  refine wpAny_mono ((hb (fun cls d σ' H' => σ'.length = X.N.length → wCls X.K Wout D l cls d σ' H') (X.pn ++ pins) (fun e s₁ => wpAny (model X.prog X.w) X.A (noteFrame e X.env) (fun _ s₂ => wpAny (model X.prog X.w) X.A (setFlight e none) (fun _ s₃ =>
    wpAny (model X.prog X.w) X.A (handleBy e X.env (h₀ :: hds)) (SP X pins D) X.xe s₃) X.xe s₂) X.xe s₁) (fun u s' xx => ?_) PassesOwn.looking).run [] s σ H D (I.toTry _) h) (fun f s1 hsp => ?_) (fun e s1 he => he)
  · obtain ⟨a, B, sI, pins', σ', H', cls, d, rfl, J', nb, up, sky, na, os, ag, w⟩ := xx
    have J : L2.Inv X pins σ' H' sI := J'.ofTry ok
    replace w := w J.len
    refine Sky.land Zc.steady hfr hf (by rw [← hs]; exact sky) fun h3 fl3 up3 => ?_
    have J3 : L2.Inv X pins σ' H' { s' with heap := h3 } := J.landed nb fl3.1 (up.trans up3) os ag
    obtain ⟨oe3, vs3, he3, hz3, hd3⟩ := fl3.there
    have nfr : a ∉ frs (X.env :: X.outer) := fun hm => by
      obtain ⟨_, o', e', hnf⟩ := fl3.2.2.1.mem hm
      rw [he3] at e'
      cases e'
      exact hnf _ hd3
    have nL : a ≠ X.env.locals := fun z => nfr (List.mem_filterMap.mpr ⟨X.env, List.mem_cons_self, by rw [hf, z]⟩)
    have nF : a ∉ X.fs := fun hm => by
      obtain ⟨e, he, q⟩ := List.mem_filterMap.mp hm
      exact nfr (List.mem_filterMap.mpr ⟨e, List.mem_cons_of_mem _ he, q⟩)
    have S3 := J3.suite he3 hd3 na nL nF
    have LT : PySem.W.Looks (model X.prog X.w) h3 (typeOf (.ref a)) cls := fun A Q E s k q => wpAny_typeOf_ref (k _ _ he3) (by rw [hz3.1]; exact q)
    have go : ∀ {hs' : List ExceptHandler} {l' : List Clause}, HdA X hs' l' → wCls X.K Wout D l' cls d σ' H' → wpAny (model X.prog X.w) X.A (handleBy (.ref a) X.env hs') (SP X pins D) X.xe { s' with heap := h3 } := by
      intro hs' l' hk
      induction hk with
      | nil =>
        intro w
        refine wpAny_handleBy_nil ?_
        obtain ⟨k1, k2, k3, oe, vs, T, oT, ts', he, hz, hd, h1, hr⟩ := id fl3
        unfold PySem.passOn
        refine wpAny_bind (wpAny_field he hd h1 ?_)
        rw [if_neg (show ¬ ((Value.ref T == Value.none) = true) by simp)]
        have fin : wpAny (model X.prog X.w) X.A (setFlight (.ref a) X.env.frame) (fun _ s4 => wpAny (model X.prog X.w) X.A (throw (.ref a) : Sem Flow) (SP X pins D) X.xe s4) X.xe { s' with heap := h3 } := by
          rw [hf]
          refine HandSPX.setFlight_upZ fl3 fun h4 hh4 up4 => wpAny_throw (tk _ _ ⟨a, B, sI, pins, σ', H', cls, d, rfl, J, nb, (up.trans up3).trans up4, .inr (.inr ?_), na, os, ag, w⟩)
          rw [hs]
          exact hh4
        first
          | exact wpAny_bind (wpAny_pure (wpAny_bind fin))
          | exact wpAny_bind fin
      | @cons x n k b₀ suite np pos' hds2 l2 hc hi hln hsu r ih =>
        rintro ⟨b, hb1, hyes, hno⟩
        refine wpAny_handleBy_cons (codeAny_handlers_test ?_) (by intro q; cases q)
        have LM := PySem.W.exm_one (M := model X.prog X.w) (J3.kIn) LT hb1
        have test : ∀ {Q : Value → Shared → Prop} {E : Value → Shared → Prop}, Q k.c { s' with heap := h3 } → wpAny (model X.prog X.w) (X.A.mark (some (.ref a))) (eval (.Name x np) X.env) Q E { s' with heap := h3 } := by
          intro Q E q
          obtain ⟨hg, hdbg, hm | ⟨hm, hv, hnn⟩⟩ := hc
          · exact ld_glob (X := X.suite a ((a, oe3) :: (X.pn ++ pins))) S3 hg hm q hdbg
          · exact ld_blt (X := X.suite a ((a, oe3) :: (X.pn ++ pins))) S3 hg hm hv q hnn hdbg
        refine test (LM.here ?_)
        cases b with
        | true =>
          refine codeAny_handlers_suite_as (HandSPX.lands_againZ fl3 fun h4 fl4 up4 => ?_)
          have J4 : L2.Inv X pins σ' H' { s' with heap := h4 } := J.landed nb fl4.1 ((up.trans up3).trans up4) os ag
          obtain ⟨oe4, vs4, he4, hz4, hd4⟩ := fl4.there
          have S4 := J4.suite he4 hd4 na nL nF
          refine store_ok (X := X.suite a ((a, oe4) :: (X.pn ++ pins))) (v := .ref a) S4 hN hi (.inl hln) rfl (fun s5 S5 => ?_) (.inr hln)
          refine wpAny_mono ((hsu a oe4 cls d (X.pn ++ pins) hz4 ⟨_, hd4⟩).run [] s5 _ H' _ S5 (hyes rfl a na)) (fun f s6 hsp => ?_) (fun _ _ z => False.elim z)
          have end_ : ∀ {σ6 : L2.St} {H6 : Hp} {Q : Shared → Prop}, L2.Inv (X.suite a ((a, oe4) :: (X.pn ++ pins))) [] σ6 H6 s6 → (∀ s7, L2.Inv X pins (σ6.set k.i none) H6 s7 → Q s7) →
              wpAny (model X.prog X.w) X.A (do bindName X.env n .none; unbindBehindTheSuite X.env n pos') (fun _ s7 => Q s7) X.xe s6 := fun {σ6 H6 Q} S6 hq => gone_ok (S6.unsuite ok) hN hi hln hq
          match f, hsp with
          | .next, ⟨σ6, H6, S6, q6⟩ => exact end_ S6 fun s7 J7 => ⟨_, _, J7, q6⟩
          | .brk, ⟨σ6, H6, S6, q6⟩ => exact end_ S6 fun s7 J7 => ⟨_, _, J7, q6⟩
          | .cont, ⟨σ6, H6, S6, q6⟩ => exact end_ S6 fun s7 J7 => ⟨_, _, J7, q6⟩
          | .ret u, ⟨v6, σ6, H6, S6, r6, q6⟩ => exact end_ S6 fun s7 J7 => ⟨_, _, _, J7, r6, q6⟩
        | false =>
          show wpAny _ X.A (handleBy (.ref a) X.env hds2) _ _ _
          exact ih (hno rfl)
    exact go hh w
  · match f, hsp with
    | .next, ⟨σ', H', J', q⟩ => exact wpAny_execs_nil ⟨σ', H', J'.ofTry ok, q⟩
    | .brk, ⟨σ', H', J', q⟩ => exact ⟨σ', H', J'.ofTry ok, q⟩
    | .cont, ⟨σ', H', J', q⟩ => exact ⟨σ', H', J'.ofTry ok, q⟩
    | .ret u, ⟨v, σ', H', J', r, q⟩ => exact ⟨v, σ', H', J'.ofTry ok, r, q⟩
end
end Ah

/-! isinstance of a caught error that has a dict; repr of data -/
namespace Ah
open PySem PySem.Spec PySem.W PySem.Calls PyProof.Rows L2 He
section
variable {prog : Program} {w : World} {A : Around} {E : Value → Shared → Prop} {s : Shared} {K : Frag} {x D : Addr} {ox od : Obj}
theorem cls_of_exc {Q : Option Value → Shared → Prop} (C : ExcC K D) (X : K.In s.heap) (I : InstAt s.heap x ox D (some od)) (h : Q (some (.ref D)) { s with toks := s.toks + 1 }) : wpAny (model prog w) A (getAttr? (.ref x) "__class__") Q E s := by
  have hf : findObj K D (some od) "__class__" = some (.bind (.builtin "getset_descriptor.__get__") (.builtin "object.__class__")) := findObj_data (by obtain ⟨cd, hc, _⟩ := any_some C.hd; rw [hc]; rfl) C.ha C.hn C.ht
  obtain ⟨hp, g, d, t, os⟩ := s
  have L0 := I.type (M := model prog w)
  have L1 := looks_findIn (M := model prog w) X C.hg
  have L2 := looks_findIn (M := model prog w) X C.hk
  have L3 := looks_find (M := model prog w) X I hf
  have sub : Looks (model prog w) hp (isInstance (.ref x) (.type "BaseException")) true := L0.andThen (looks_subIn X C.hs)
  have own : (Value.builtin "BaseException.__getattribute__" == Value.builtin "object.__getattribute__") = false := by decide +kernel
  have own1 : (onTheHeap (Value.ref D) && Value.builtin "BaseException.__getattribute__" == Value.builtin "object.__getattribute__") = false := by rw [own]; rfl
  have own2 : (false && onTheHeap (Value.builtin "BaseException.__getattribute__")) = false := rfl
  unfold getAttr? getAttrBy? getAttrBy
  refine wpAny_bind (wpAny_mkText (wpAny_bind (wpAny_attempt (wpAny_holding (wpAny_bind (L0.at (wpAny_bind (L1.at ?_))))))))
  show wpAny _ _ (if (onTheHeap (Value.ref D) && Value.builtin "BaseException.__getattribute__" == Value.builtin "object.__getattribute__") = true then _ else _) _ _ _
  rw [own1, if_neg Bool.false_ne_true]
  unfold getAttrByItsOwn hookBefore
  refine wpAny_bind ?_
  rw [if_pos (show onTheHeap (Value.ref D) = true from rfl)]
  refine L2.at (wpAny_bind (wpAny_attempt (wpAny_holding ?_)))
  unfold callGetattribute
  rw [own2, if_neg Bool.false_ne_true]
  unfold boundAndCalled
  rw [PySem.F.excAttr_ValueError.ga.bind (.ref x)]
  refine wpAny_bind (wpAny_pure ?_)
  show wpAny _ _ (call (.builtin "BaseException.__getattribute__") [.ref x, .str "__class__" t]) _ _ _
  refine wpAny_call (codeAny_call_builtin PySem.F.excAttr_ValueError.ga.plain PySem.F.entry_bexc_ga ?_)
  refine @check_slot (model prog w) _ _ ⟨hp, g, d, t + 1, os⟩ "BaseException.__getattribute__" "BaseException" "__getattribute__" (.ref x) [.str "__class__" t] [] _ (by decide +kernel) (by decide +kernel) sub (PySem.F.args_bexc_ga (.ref x) (.str "__class__" t)) ?_
  unfold Builtin.«object.__getattribute__»
  refine wpAny_bind (wpAny_of_eq (a := ((Value.ref x : Value), [Value.str "__class__" t])) (by first | rfl | (simp only [slotArgs]; rfl)) ?_)
  refine wpAny_bind (wpAny_pure (wpAny_bind (L0.at (wpAny_bind (L3.at ?_)))))
  show wpAny _ _ (holding [Value.builtin "object.__class__"] (call (.builtin "getset_descriptor.__get__") [.builtin "object.__class__", .ref x, .ref D]) >>= ret) _ _ _
  refine wpAny_bind (wpAny_holding (wpAny_call (class_get (s := ⟨hp, g, d, t + 1, os⟩) (ox := ox) (od := some od) X I C.hm ?_)))
  refine wpAny_pure ?_
  show wpAny _ _ (handedOut (.ref D)) _ _ _
  rw [handedOut_of (v := .ref D) rfl]
  first
    | exact wpAny_pure (wpAny_pure h)
    | exact wpAny_pure h
    | exact wpAny_pure (wpAny_bind (wpAny_pure (wpAny_pure h)))
theorem kitx_excD (C : ExcC K D) : KitX K (.ref x) (.ref D) (fun h => InstAt h x ox D (some od)) where
  ty := fun _ _ _ I => I.type
  it := fun _ _ X _ => by
    obtain ⟨cdD, hcD, _⟩ := any_some C.hd
    unfold clsIn at hcD
    split at hcD
    · rename_i c' d' cd' sl' ho
      intro A' Q' E' s' k q
      unfold isType loadHead
      exact wpAny_bind (wpAny_loadPart (k _ _ (X _ _ ho)) (wpAny_pure q))
    · cases hcD
  ne := fun h tp dd its n sl X htp => by
    obtain ⟨cdD, hcD, _⟩ := any_some C.hd
    refine Bool.eq_false_iff.mpr fun q => ?_
    cases (Value.ref.inj (beq_iff_eq.mp q) : D = tp)
    unfold clsIn at hcD
    split at hcD
    · rename_i c' d' cd' sl' ho
      cases (X _ _ ho).symm.trans htp
    · cases hcD
  ca := fun X I k => cls_of_exc C X I k
end
/-- isinstance(e, c), e the exception with a dict that the suite holds -/
def rIsX (K : Frag) (a : Addr) (cls : Value) (d : Option Addr) : List V → Hp → VK → Prop := fun xs H Q => ∃ (D dd : Addr) (fs : List (Str × V)) (c : V) (cv : Value) (b : Bool), cls = .ref D ∧ d = some dd ∧ H dd = some (.xd fs) ∧ ExcC K D ∧ xs = [.ref a, c] ∧ ClsV c cv ∧ kitOne K (.ref D) cv = some b ∧ Q (.bl b) H
theorem call_isX {X : Cx} {a : Addr} {cls : Value} {d : Option Addr} {oe : Obj} {pn : List (Addr × Obj)} (hz : Zc cls d oe) (hf : ∃ vs, oe.data = .fields vs) : CallR (X.suite a ((a, oe) :: pn)) (.builtin "isinstance") (rIsX X.K a cls d) := by
  intro pins s σ H xs us Q I r h
  obtain ⟨D, dd, fs, c, cv, b, rfl, rfl, ed, C, rfl, hcv, e, q⟩ := h
  cases r with
  | cons rx rr =>
    cases rr with
    | cons rt rr =>
      cases rr
      cases rx
      have ec := hcv.eq rt
      subst ec
      obtain ⟨hget, _⟩ := I.pin (a, oe) (List.mem_append.mpr (.inl List.mem_cons_self))
      obtain ⟨vs, hv⟩ := hf
      have hx : ObjOk X.prog X.w H s.heap dd (.xd fs) := I.hok dd _ ed
      obtain ⟨mA, hns, hr⟩ := hx
      obtain ⟨od, ho, hl⟩ := lookIn_ns hns
      have J : InstAt s.heap a oe D (some od) := ⟨hget, hz.1, by unfold notCls; rw [hv] <;> rfl, by rw [hz.2]; exact ho⟩
      exact kia_one (kitx_excD C) I.kIn J e (fun z => nomatch z) fun tk => ⟨.bl b, H, I.kept (t' := tk) fun _ _ z => z, rfl, q⟩
def excCB (C : Str) (K : Frag) : Bool :=
  eqO (findIn K (.ref (ga K C)) "__getattribute__") (some (some (.builtin "BaseException.__getattribute__"))) && (eqO (findIn K (.ref (ga K C)) "__getattr__") (some none) && (decide (subIn K (.ref (ga K C)) (.type "BaseException") = some true) &&
  (hasDictIn K (ga K C) && (eqO (findIn K (.ref (ga K C)) "__class__") (some (some (.builtin "object.__class__"))) && (eqO (specialIn K (.builtin "object.__class__") "__get__") (some (some (.builtin "getset_descriptor.__get__"))) &&
  (decide (takesIn K (.builtin "object.__class__") = some true) && decide (mroIn K (ga K C) (.type "object") = some true)))))))
theorem excC_ok {C : Str} {K : Frag} (h : excCB C K = true) : ExcC K (ga K C) := by
  unfold excCB at h
  obtain ⟨h1, h⟩ := ba h
  obtain ⟨h2, h⟩ := ba h
  obtain ⟨h3, h⟩ := ba h
  obtain ⟨h4, h⟩ := ba h
  obtain ⟨h5, h⟩ := ba h
  obtain ⟨h6, h⟩ := ba h
  obtain ⟨h7, h8⟩ := ba h
  exact ⟨eqO_ok h1, eqO_ok h2, of_decide_eq_true h3, h4, eqO_ok h5, eqO_ok h6, of_decide_eq_true h7, of_decide_eq_true h8⟩
/-- repr(x) of data -/
def rReprD (K : Frag) : List V → Hp → VK → Prop := fun xs H Q => ∃ (x : V) (d : PyData), xs = [x] ∧ Dp K H x d ∧ d.showable = true ∧ d.hasDict = false ∧ d.depth ≤ 64 ∧ d.shown.length ≤ sizeLine ∧ Q (.str d.shown) H
theorem call_reprD {X : Cx} (hg : X.A.guards = some []) (hu : X.A.units + 99 < cLine) : CallR X (.builtin "repr") (rReprD X.K) := by
  intro pins s σ H xs us Q I r h
  obtain ⟨x, d, rfl, hx, h1, h2, h3, h4, q⟩ := h
  obtain ⟨u, rfl, ru⟩ := r.one
  obtain ⟨as, rd⟩ := Dp.reads I d x u hx ru
  have fin : ∀ h' t tk, (∀ b o, s.heap.get? b = some o → h'.get? b = some o) → EP X pins σ Q (.str d.shown t) { s with heap := h', toks := tk } := fun h' t tk hk => ⟨.str d.shown, H, I.kept (t' := tk) hk, ⟨t, rfl⟩, q⟩
  have now : ∀ t tk, EP X pins σ Q (.str d.shown t) { s with toks := tk } := fun t tk => fin s.heap t tk fun _ _ z => z
  cases hx with
  | non => cases (show u = Value.none from ru); exact PySem.P.repr_of_none (now _ _)
  | bl b => cases (show u = Value.bool b from ru); exact PySem.P.repr_of_bool (now _ _)
  | int i =>
    obtain ⟨t, e⟩ := (show ∃ t, u = Value.int i t from ru)
    subst e
    exact PySem.P.repr_of_int (of_decide_eq_true h1) (now _ _)
  | str z =>
    obtain ⟨t, e⟩ := (show ∃ t, u = Value.str z t from ru)
    subst e
    exact PySem.P.repr_of_str (now _ _) h4
  | lst a b =>
    rename_i ad xs ds
    cases (show u = Value.ref ad from ru)
    exact repr_of_reads' rd h1 (fun z => by rw [h2] at z; cases z) hg (by omega) (fun _ _ z => z) fin h4
  | tup a b =>
    rename_i ad xs ds
    cases (show u = Value.ref ad from ru)
    exact repr_of_reads' rd h1 (fun z => by rw [h2] at z; cases z) hg (by omega) (fun _ _ z => z) fin h4
theorem call_reprX {X : Cx} {a : Addr} {cls : Value} {d : Option Addr} {oe : Obj} {pn : List (Addr × Obj)} (hz : Zc cls d oe) (hg : (X.suite a ((a, oe) :: pn)).A.guards = some []) (hu : (X.suite a ((a, oe) :: pn)).A.units + 99 < cLine) : CallR (X.suite a ((a, oe) :: pn)) (.builtin "repr") (rReprD X.K) :=
  call_reprD hg hu
end Ah

/-! the claim's call with tables of code objects; lambdas handed to a def -/
namespace Ah
open PySem PySem.Spec PyProof.Rows L2 He LamX
/-- the tables of the defs that make lambdas, below the running heap -/
abbrev Tbs (base : Heap) (mg : Str → Option Value) (cs : List (Addr × Addr)) : Prop := ∀ p ∈ cs, TabB base mg p.1 p.2
def LawOkT (P : Program) (w : World) (K : Frag) (mg : Str → Option Value) (cs : List (Addr × Addr)) (k : Nat) (fa : Addr) (sp : Sp) : Prop :=
  ∀ (base : Heap), Tbs base mg cs → ∀ (A : Around) (outer : List Env) (s : Shared) (H : Hp) (u : Value) (v : V) (Q : VK) (E : XK), Rm k A → Env0 P w K mg base A outer s H → RelV v u → sp [v] H Q E →
    codeAny (model P w) A (.call (.ref fa) ⟨[u], []⟩) (CR L2.CX0 outer P w H s Q E) s
theorem okLawT {P : Program} {w : World} {K : Frag} {mg : Str → Option Value} {cs : List (Addr × Addr)} {N : List Str} {x : Str} {k : Nat} {sp : Sp} {d : DefG} (S : Stands K d) (h0 : d.dfl = []) (sc : FnScope N [x] d.scope)
    (hb : ∀ (kV doc pm : Value) (an : Option Addr) (cdv ct : Value) (us : List Value), us.length = 1 → bindArgs (PySem.W.fnOf d.name d.qual d.params d.body d.scope .none kV doc pm an cdv ct) ⟨us, []⟩ = pure ([x].zip us))
    (hbody : ∀ base : Heap, Tbs base mg cs → BodyB L2.CX0 P w K mg base N d k sp) : LawOkT P w K mg cs (k + 1) (d.ad K) sp := by
  obtain ⟨fd, F⟩ := S
  have e : d.dvs K = [] := by unfold DefG.dvs; rw [h0]; rfl
  rw [e] at F
  have b := FunD.bindsA (ps := [x]) F hb
  exact fun base tb A outer s H u v Q E hr e0 r hsp => body_run F sc (hbody base tb) hr e0 (b s [u] rfl) rfl (.cons r .nil) hsp
section
variable {P : Program} {w : World} {K : Frag} {mg mb : Str → Option Value} {k : Nat} {fa a : Addr} {cs : List (Addr × Addr)} {sp : Sp} {s : Shared} {vs : List Value} {ns : List Int} {H : Hp}
/-- what the claim's call finds -/
structure Found (K : Frag) (mg mb : Str → Option Value) (cs : List (Addr × Addr)) (a : Addr) (vs : List Value) (s : Shared) : Prop where
  KX : K.In s.heap
  ns : s.heap.Ns mainGlobals mg
  bn : s.heap.Ns builtinsNs mb
  bb : ∀ x : Str, x ≠ "__name__" → mb x = bootBuiltins x
  lim : s.heap.NoLimit
  gen : s.gens = #[]
  tab : ∀ p ∈ cs, s.heap.get? p.2 = some { cls := .none, data := .fields #[] }
  out : ∀ p ∈ cs, K.lookup p.2 = none
  hd : ∀ p ∈ cs, PySem.W.CodeHd s.heap p.1 p.2
  bm : ∃ (bm : Addr) (ob : Obj), mg "__builtins__" = some (.ref bm) ∧ bm ≠ builtinsNs ∧ s.heap.get? bm = some ob ∧ ob.cls = .type "module" ∧ ob.dict = some builtinsNs ∧ ob.data = .plain
  at_ : s.heap.get? a = some { cls := .type "list", data := .seq vs.toArray }
/-- only the script and the tables are tracked -/
structure Track (P : Program) (w : World) (K : Frag) (cs : List (Addr × Addr)) (a : Addr) (s : Shared) (H : Hp) : Prop where
  tb : ∀ p ∈ cs, H p.2 = some (.tbl #[])
  only : ∀ b, H b = none ∨ b ∈ cs.map (·.2) ∨ (b = a ∧ K.lookup a = none ∧ ∃ o xs, H b = some (.frz o (.lst xs)))
  ok : HOk P w H s.heap
theorem Found.isT (F : Found K mg mb cs a vs s) {b : Addr} (hb : b ∈ cs.map (·.2)) : s.heap.get? b = some { cls := .none, data := .fields #[] } := by
  obtain ⟨p, hp, e⟩ := List.mem_map.mp hb
  subst e
  exact F.tab p hp
/-- an object of another make is not tracked -/
theorem Found.off (F : Found K mg mb cs a vs s) (T : Track P w K cs a s H) {b : Addr} {o : Obj} (e : s.heap.get? b = some o) (h1 : ∀ l n, o.data ≠ .seq l n) (h2 : o.data ≠ .fields #[]) : H b = none := by
  rcases T.only b with z | z | ⟨z, _⟩
  · exact z
  · rw [F.isT z] at e
    cases e
    exact absurd rfl h2
  · subst z
    rw [F.at_] at e
    cases e
    exact absurd rfl (h1 _ _)
theorem Found.low (F : Found K mg mb cs a vs s) (T : Track P w K cs a s H) {b : Addr} {o : Obj} (e : s.heap.get? b = some o) (h1 : ∀ l n, o.data ≠ .seq l n) (h2 : o.data ≠ .fields #[]) : (hidT s.heap H).get? b = some o := hidT_get e (F.off T e h1 h2)
theorem Found.lowNs (F : Found K mg mb cs a vs s) (T : Track P w K cs a s H) {b : Addr} {m : Str → Option Value} (h : s.heap.Ns b m) : (hidT s.heap H).Ns b m := by
  obtain ⟨o, es, ep, e, d, r⟩ := h
  exact ⟨o, es, ep, F.low T e (fun l n z => by rw [d] at z; cases z) (fun z => by rw [d] at z; cases z), d, r⟩
theorem Found.env (F : Found K mg mb cs a vs s) (T : Track P w K cs a s H) : Env0 P w K mg (hidT s.heap H) callerA [] s H := by
  obtain ⟨mc, l1, l2⟩ := F.lim
  refine ⟨rfl, ⟨fun b o e => hidT_get (F.KX b o e) ?_, F.lowNs T F.ns, ⟨mb, F.lowNs T F.bn, F.bb⟩, ⟨mc, F.lowNs T l1, l2⟩⟩, fun b o e => of_hidT e, Nat.le_of_eq (hidT_size _ _), trivial, fun b hb => absurd (show b ∈ ([] : List Addr) from hb) List.not_mem_nil, T.ok, .of_eq F.gen⟩
  rcases T.only b with z | z | ⟨z, k, _⟩
  · exact z
  · obtain ⟨p, hp, ep⟩ := List.mem_map.mp z
    subst ep
    rw [F.out p hp] at e
    cases e
  · subst z
    rw [k] at e
    cases e
theorem Found.tabs (F : Found K mg mb cs a vs s) (T : Track P w K cs a s H) : Tbs (hidT s.heap H) mg cs := fun p hp => by
  have hTp := F.tab p hp
  refine ⟨?_, ?_, fun z => ?_⟩
  · obtain ⟨o, us, file, tf, flags, tg, inF, text, tt, e1, r1, r2, r3, r4, r5, r6, r7, r8, hne⟩ := F.hd p hp
    refine ⟨o, us, file, tf, flags, tg, inF, text, tt, F.low T e1 (fun l n z => ?_) (fun z => ?_), r1, r2, r3, r4, r5, r6, r7, r8, hne⟩
    · rw [r2] at z
      cases z
    · rw [r2] at z
      cases z
      simp at r3
  · obtain ⟨bm, ob, b1, b2, b3, b4, b5, b6⟩ := F.bm
    refine ⟨bm, ob, b1, b2, fun q => ?_, fun q => ?_, F.low T b3 (fun l n z => by rw [b6] at z; cases z) (fun z => by rw [b6] at z; cases z), b4, b5, b6⟩
    · obtain ⟨o, es, ep, e, hd, _⟩ := F.ns
      subst q
      rw [e] at b3
      cases b3
      rw [hd] at b6
      cases b6
    · subst q
      rw [hTp] at b3
      cases b3
      cases b6
  · obtain ⟨o, es, ep, e, hd, _⟩ := F.ns
    rw [z, hTp] at e
    cases e
    cases hd
theorem Found.run (F : Found K mg mb cs a vs s) (T : Track P w K cs a s H) (hr : Room k callerA) (L : LawOkT P w K mg cs k fa sp) (hsp : sp [.ref a] H (fun v _ => v = .bl true) fun _ _ _ => False) :
    codeAny (model P w) callerA (.call (.ref fa) ⟨[.ref a], []⟩) (fun r s' => r = .ok (.ret (.bool true)) ∧ OldK s.heap s'.heap ∧ s'.os = s.os ∧ AllBare s'.gens) s := by
  refine codeAny_mono (L _ (F.tabs T) callerA [] s H (.ref a) (.ref a) _ _ ⟨hr, rfl⟩ (F.env T) rfl hsp) fun r s' h => ?_
  match r, h with
  | .ok (.ret u), ⟨v, H', os, bare, un, hok', r', q⟩ =>
    cases (show v = .bl true from q)
    cases (show u = Value.bool true from r')
    have key : ∀ b o, b ∉ cs.map (·.2) → s.heap.get? b = some o → s'.heap.get? b = some o := fun b o nb e => by
      rcases T.only b with z | z | ⟨_, _, ob, xs, z⟩
      · exact un.keep b o e z (fun y => absurd (show b ∈ ([] : List Addr) from y) List.not_mem_nil) List.not_mem_nil
      · exact absurd z nb
      · have e1 := (T.ok b _ z).1
        rw [e] at e1
        cases e1
        exact (hok' b _ (un.frzs b _ _ z)).1
    have grown : ∀ p ∈ cs, ∃ more : Array Value, s'.heap.get? p.2 = some { cls := .none, data := .fields more } := fun p hp => by
      obtain ⟨more, z⟩ := un.tbls p.2 #[] (T.tb p hp)
      exact ⟨_, hok' p.2 _ z⟩
    refine ⟨rfl, ⟨fun b o e => ?_, fun b o e => ?_⟩, os, bare⟩
    · by_cases hb : b ∈ cs.map (·.2)
      · obtain ⟨p, hp, ep⟩ := List.mem_map.mp hb
        subst ep
        obtain ⟨more, hm⟩ := grown p hp
        rw [F.tab p hp] at e
        cases e
        exact .inr (.inl ⟨((F.hd p hp).tab (F.tab p hp)).isCodeTable, rfl, #[], more, rfl, by rw [Array.empty_append]; exact hm⟩)
      · exact .inl (key b o hb e)
    · by_cases hb : b ∈ cs.map (·.2)
      · obtain ⟨p, hp, ep⟩ := List.mem_map.mp hb
        subst ep
        obtain ⟨more, hm⟩ := grown p hp
        exact ⟨_, hm⟩
      · exact ⟨o, key b o hb e⟩
theorem Found.call (F : Found K mg mb cs a vs s) (hi : IntsAre vs ns) (hl : ns.length ≤ sizeLine) (hr : Room k callerA) (L : LawOkT P w K mg cs k fa sp)
    (hsp : ∀ H : Hp, (∀ p ∈ cs, H p.2 = some (.tbl #[])) → SqL K H a (ns.map V.int) → sp [.ref a] H (fun v _ => v = .bl true) fun _ _ _ => False) :
    codeAny (model P w) callerA (.call (.ref fa) ⟨[.ref a], []⟩) (fun r s' => r = .ok (.ret (.bool true)) ∧ OldK s.heap s'.heap ∧ s'.os = s.os ∧ AllBare s'.gens) s := by
  have rv := vals_ints hi
  have lenV := hi.length
  have aT : a ∉ cs.map (·.2) := fun z => by
    have q := F.isT z
    rw [F.at_] at q
    have z' : Data.seq vs.toArray _ = Data.fields #[] := congrArg Obj.data (Option.some.inj q)
    cases z'
  have mem : ∀ p ∈ cs, p.2 ∈ cs.map (·.2) := fun p hp => List.mem_map.mpr ⟨p, hp, rfl⟩
  cases hk : K.lookup a with
  | some o =>
    have e := F.KX a o hk
    rw [F.at_] at e
    cases e
    let H : Hp := fun b => if b ∈ cs.map (·.2) then some (.tbl #[]) else none
    have T : Track P w K cs a s H := ⟨fun p hp => if_pos (mem p hp), fun b => by
        by_cases hb : b ∈ cs.map (·.2)
        · exact .inr (.inl hb)
        · exact .inl (if_neg hb), fun b u z => by
        by_cases hb : b ∈ cs.map (·.2)
        · cases ((if_pos hb).symm.trans z : some (HO.tbl #[]) = some u)
          exact F.isT hb
        · cases ((if_neg hb).symm.trans z : none = some u)⟩
    exact F.run T hr L (hsp H T.tb (.inr ⟨_, vs.toArray, _, hk, rfl, rfl, rfl, by rw [List.size_toArray, lenV]; exact hl, by simpa using rv⟩))
  | none =>
    let H : Hp := fun b => if b = a then some (.frz { cls := .type "list", data := .seq vs.toArray } (.lst (ns.map V.int))) else if b ∈ cs.map (·.2) then some (.tbl #[]) else none
    have at_ : H a = some (.frz { cls := .type "list", data := .seq vs.toArray } (.lst (ns.map V.int))) := if_pos rfl
    have tb : ∀ b, b ∈ cs.map (·.2) → H b = some (.tbl #[]) := fun b hb => (if_neg (show ¬ b = a from fun z => aT (z ▸ hb))).trans (if_pos hb)
    have off : ∀ b, b ≠ a → b ∉ cs.map (·.2) → H b = none := fun b h1 h2 => (if_neg h1).trans (if_neg h2)
    have T : Track P w K cs a s H := ⟨fun p hp => tb _ (mem p hp), fun b => by
        by_cases hb : b = a
        · subst hb
          exact .inr (.inr ⟨rfl, hk, _, _, at_⟩)
        · by_cases h2 : b ∈ cs.map (·.2)
          · exact .inr (.inl h2)
          · exact .inl (off b hb h2), fun b u z => by
        by_cases hb : b = a
        · subst hb
          rw [at_] at z
          cases z
          exact ⟨F.at_, by rw [List.length_map]; exact hl, vs, _, rv, F.at_⟩
        · by_cases h2 : b ∈ cs.map (·.2)
          · rw [tb b h2] at z
            cases z
            exact F.isT h2
          · rw [off b hb h2] at z
            cases z⟩
    exact F.run T hr L (hsp H T.tb (.inl (.inr ⟨_, at_⟩)))
end
/-- a law's end, with tables -/
theorem law_walkT {l : PySem.W.OpenLaw} {n k : Nat} {q : Program} {loose : List Str} {XP : (Str → Option Value) → Heap → Prop} {YP : World → Heap → Prop} {d : DefRec}
    (hn : l.most = some n) (hn2 : n ≤ sizeLine) (hdf : d.params.defaults = []) (hr : Room k callerA)
    (F : ∀ (w : World) (mg : Str → Option Value) (fa : Addr) (h : Heap), YP w h → h.Ns mainGlobals mg → mg d.name = some (.ref fa) →
      ∃ (K : Frag) (cs : List (Addr × Addr)) (sp : Sp), K.In h ∧ (∀ p ∈ cs, h.get? p.2 = some { cls := .none, data := .fields #[] }) ∧ (∀ p ∈ cs, K.lookup p.2 = none) ∧ (∀ p ∈ cs, PySem.W.CodeHd h p.1 p.2) ∧
        (∀ (H : Hp) (a : Addr) (ns : List Int), ns.length ≤ n → (∀ z ∈ ns, Builtin.Int.intBits z ≤ 1048576) → (∀ p ∈ cs, H p.2 = some (.tbl #[])) → SqL K H a (ns.map V.int) → sp [.ref a] H (fun v _ => v = .bl true) fun _ _ _ => False) ∧ LawOkT l.prog w K mg cs k fa sp) :
    PySem.W.WalkO q loose XP YP l.row.toRowW d [] (fun f vs => PySem.call f vs) := by
  refine Att.attach_callB hn hdf fun w s₀ s₁ mg mb fa o pm cd doc a vs ns G Y ho hd hcd hmg hobj hints hlen hbits hg => ?_
  obtain ⟨K, cs, sp, KX, h1, h2, h3, hsp, hF⟩ := F w mg fa _ Y G.T.g hmg
  exact Found.call ⟨KX, G.T.g, G.T.b, G.T.builtins, G.T.nolimit, hg, h1, h2, h3, G.T.bmain, hobj⟩ hints (Nat.le_trans hlen hn2) hr hF fun H hH hS => hsp H a ns hlen hbits hH hS
end Ah

/-! x(lambda: body), x a def of the text that calls what it got -/
namespace Ah
open PySem PySem.Spec PyProof.Rows L2 He LamX
theorem body_runS {P : Program} {w : World} {K : Frag} {mg : Str → Option Value} {base : Heap} {CX : CXT} {N ps : List Str} {k : Nat} {d : DefG} {fd : FuncData} {dvs : List V} {kws : List (Str × V)} (F : FunD K d.name d.qual d.params d.body d.scope dvs kws (d.ad K) fd) (S : FnScope N ps d.scope)
    {A : Around} {outer : List Env} {s : Shared} {H : Hp} {args : Args} {us : List Value} {vs : List V} {Q : VK} {E : XK} (hr : Rm (k + 1) A) (e0 : Env0 P w K mg base A outer s H) (hb : BindsTo s fd args (ps.zip us)) (hl : vs.length = ps.length) (r : Vals vs us)
    (hbody : Rm k (A.deeper (envOfC d.qual d.scope s.heap.objs.size (d.ad K) (CodeV K (d.ad K)))) →
      ∃ t, PSs (cxOf CX P w K mg base N d.qual d.scope (d.ad K) (CodeV K (d.ad K)) A outer s H E) d.body t ∧ t { nx := fun _ H' => Q .non H', rt := Q } (L2.start N vs) H) :
    codeAny (model P w) A (.call (.ref (d.ad K)) args) (CR CX outer P w H s Q E) s := by
  obtain ⟨oc, od, dV, kV, doc, pm, an, cdv, ct, osl, rfl, lk, hcd, _, _⟩ := F.ex
  have ec : CodeV K (d.ad K) = cdv := by
    unfold CodeV
    rw [lk]
  subst ec
  exact run_ofS lk hcd S hr.r e0 hb r hl fun _ => hbody ⟨hr.r.deeper _, hr.g⟩
section
variable {X : Cx} {pins : List (Addr × Obj)} {σ : L2.St} {H HZ : Hp} {s s1 : Shared}
/-- the call of the lambda, in the def that got it: Z is that def's context, entered at s -/
theorem pe_actG {Ng : List Str} {dg : DefG} {f c' : Addr} {cdg pm ctv : Value} {params : Arguments} {body : Expr} {scope : Scope} {k i : Nat} {a : Str} {pn : List (Addr × Obj)} {xe : Value → Shared → Prop} {W : WX} {E : XK} {tb : TE} {p1 p2 : Pos}
    (I : L2.Inv X pins σ H s) (L : LamS X.env.scope scope) (hf : s.heap.get? f = some (PySem.W.kla_obj "<lambda>" (X.env.qual ++ "<lambda>") params body scope (cloFrom X.env.cells scope.names []) pm c' ctv)) (hfn : H f = none) (hfr : f ∉ frs X.stack)
    (hbind : bindArgs (PySem.W.kla_fn "<lambda>" (X.env.qual ++ "<lambda>") params body scope (cloFrom X.env.cells scope.names []) pm (.ref c') ctv) ⟨[], []⟩ = pure [])
    (tk : Takes ((cxOf L2.CX0 X.prog X.w X.K X.mg X.base Ng dg.qual dg.scope (dg.ad X.K) cdg X.A X.stack s H L2.E0).tr pn xe) W) (hW : ∀ cls d σ' H', E cls d H' → W cls d σ' H') (hr : Rm (k + 1) (X.A.deeper (envOfC dg.qual dg.scope s.heap.objs.size (dg.ad X.K) cdg)))
    (hbody : ∀ (A : Around) (outer : List Env) (s : Shared) (H : Hp), Rm k (A.deeper (lamEnv X scope s.heap.objs.size f c')) → PE (lamCx X A outer s H E scope f c') body tb)
    (hN : Ng[i]? = some a) (hv : Vis dg.scope a) (hd : (a == ("__debug__" : Str)) = false := by decide) (hcd : (a == ("__classdict__" : Str)) = false := by decide) :
    PE ((cxOf L2.CX0 X.prog X.w X.K X.mg X.base Ng dg.qual dg.scope (dg.ad X.K) cdg X.A X.stack s H L2.E0).tr pn xe) (.Call (.Name a p1) [] [] p2)
      (fun σZ HZ Q => σZ[i]? = some (some (.ref f)) ∧ HZ c' = some (CodeO c' (X.env.qual ++ "<lambda>")) ∧ tb σ HZ Q) := by
  refine ⟨fun pinsZ sZ σZ HZ Q IZ h => ?_⟩
  obtain ⟨hs, hc, ht⟩ := h
  refine wpAny_Call_Name_kw (thn ((pe_var (pos := p1) (i := i) hN hv hd hcd).run pinsZ sZ σZ HZ (fun v H1 => v = .ref f ∧ H1 = HZ) IZ ⟨.ref f, hs, rfl, rfl⟩) fun u s1 ⟨v, H1, I1, r1, ev, eH⟩ => ?_)
  subst ev
  rw [eH] at I1
  cases (show u = Value.ref f from r1)
  have of1 : s1.heap.get? f = some (PySem.W.kla_obj "<lambda>" (X.env.qual ++ "<lambda>") params body scope (cloFrom X.env.cells scope.names []) pm c' ctv) := I1.base.keep f _ hf hfn hfr (fun z => nomatch (show f ∈ ([] : List Addr) from z))
  refine PySem.W.callWith_F0 ⟨_, _, _, _, of1⟩ ?_
  obtain ⟨⟨oc, vs, t, hoc, hdc, hvc⟩, _, _⟩ := I1.hok c' _ hc
  have rc : codeAny (model X.prog X.w) (X.A.deeper (envOfC dg.qual dg.scope s.heap.objs.size (dg.ad X.K) cdg)) (.call (.ref f) ⟨[], []⟩) (CR (L2.CX X.prog X.w) (envOfC dg.qual dg.scope s.heap.objs.size (dg.ad X.K) cdg :: X.stack) X.prog X.w HZ s1 Q E) s1 := by
    refine PySem.W.kla_callFunE hr.r.depth of1 rfl L.co L.gen rfl ⟨c', oc, vs, t, rfl, hoc, hdc, hvc⟩ ?_
    rw [hbind]
    refine wpAny_pure (wpAny_newFunctionEnv (fun y hy => (L.own y hy).2) (fun y hy => absurd hy (by simp)) (fun h₁ hns hsb => ⟨I1.nolimit.fresh _ hsb, ?_⟩) L.kind)
    have kp : ∀ b o, s1.heap.get? b = some o → h₁.get? b = some o := fun b o e => hsb.extBut b o (Nat.ne_of_lt (Heap.lt_size e)) (Heap.get?_push_of_some _ e)
    have J := lam_start2 (E := E) (f := f) (c' := c') (tk := s1.toks + ([] : List (Str × Value)).length) I L I1.env0 hr.r.hd I1.base hns kp
    have hr2 : Rm k ((X.A.deeper (envOfC dg.qual dg.scope s.heap.objs.size (dg.ad X.K) cdg)).deeper (lamEnv X scope s1.heap.objs.size f c')) := ⟨hr.r.deeper _, hr.g⟩
    refine PySem.W.kla_codeExpr (wpAny_mono ((hbody _ _ s1 HZ hr2).run [] _ _ HZ Q J ht) (fun v s' hq => ?_) fun e s' hq => hq)
    obtain ⟨w', H', J', rv, q⟩ := hq
    exact ⟨w', H', J'.os, J'.bare, J'.base, J'.hok, rv, q⟩
  have hx : Passes (L2.CX X.prog X.w) ((cxOf L2.CX0 X.prog X.w X.K X.mg X.base Ng dg.qual dg.scope (dg.ad X.K) cdg X.A X.stack s H L2.E0).tr pn xe) E := passes_call tk hW
  refine wpAny_call (codeAny_mono rc fun r s' hq => ?_)
  match r, hq with
  | .error e, hq => exact hx pinsZ σZ HZ s1 e s' I1 hq
  | .ok (.ret u), hq => exact I1.after hq
end
/-- the def dg that calls what it got, by the name a: TT, what it makes of the lambda's reading -/
def GivesG (X : Cx) (dg : DefG) (Ng : List Str) (k : Nat) (a : Str) (q : Str) (TT : (XK → Hp → VK → Prop) → Hp → VK → Prop) : Prop :=
  ∀ (cdg : Value) (f c' : Addr) (s : Shared) (H : Hp) (Q : VK) (tl : XK → Hp → VK → Prop), Rm k (X.A.deeper (envOfC dg.qual dg.scope s.heap.objs.size (dg.ad X.K) cdg)) →
    (∀ (W : WX) (pn : List (Addr × Obj)) (xe : Value → Shared → Prop) (E : XK) (p1 p2 : Pos), Takes ((cxOf L2.CX0 X.prog X.w X.K X.mg X.base Ng dg.qual dg.scope (dg.ad X.K) cdg X.A X.stack s H L2.E0).tr pn xe) W → (∀ cls d σ' H', E cls d H' → W cls d σ' H') →
      PE ((cxOf L2.CX0 X.prog X.w X.K X.mg X.base Ng dg.qual dg.scope (dg.ad X.K) cdg X.A X.stack s H L2.E0).tr pn xe) (.Call (.Name a p1) [] [] p2) (fun σZ HZ Q => σZ[0]? = some (some (.ref f)) ∧ HZ c' = some (CodeO c' q) ∧ tl E HZ Q)) →
    H c' = some (CodeO c' q) → TT tl H Q →
    ∃ t, PSs (cxOf L2.CX0 X.prog X.w X.K X.mg X.base Ng dg.qual dg.scope (dg.ad X.K) cdg X.A X.stack s H L2.E0).nox dg.body t ∧ t { nx := fun _ H' => Q .non H', rt := Q } (L2.start Ng [.ref f]) H
section
variable {X : Cx}
/-- x(lambda: body) -/
theorem pe_lamG {T : List (Addr × Str)} {TT : (XK → Hp → VK → Prop) → Hp → VK → Prop} {x a : Str} {dg : DefG} {c P : Addr} {k j : Nat} {Ng : List Str} {params : Arguments} {body : Expr} {scope : Scope} {t : XK → TE} {p lpos pos : Pos}
    (S : Stands X.K dg) (h0 : dg.dfl = []) (hm : X.mg x = some (.ref (dg.ad X.K))) (Sg : FnScope Ng [a] dg.scope)
    (hb : ∀ (kV doc pm : Value) (an : Option Addr) (cdv ct : Value) (us : List Value), us.length = 1 → bindArgs (PySem.W.fnOf dg.name dg.qual dg.params dg.body dg.scope .none kV doc pm an cdv ct) ⟨us, []⟩ = pure ([a].zip us))
    (hNg : Ng[0]? = some a) (hva : Vis dg.scope a) (hG : GivesG X dg Ng (k + 1) a (X.env.qual ++ "<lambda>") TT)
    (TB : TabB X.base X.mg c P) (hcode : X.env.code = .ref c) (hmT : (P, X.env.qual ++ "<lambda>") ∈ T) (hu : ∀ p ∈ T, p.1 = P → p.2 = X.env.qual ++ "<lambda>") (hr : Rm j X.A) (L : LamS X.env.scope scope)
    (hbody : ∀ (A : Around) (outer : List Env) (s : Shared) (H : Hp) (E : XK) (f c' : Addr), Rm k (A.deeper (lamEnv X scope s.heap.objs.size f c')) → PE (lamCx X A outer s H E scope f c') body (t E))
    (hk : k + 2 ≤ j := by decide) (hg : Gl X x := by rfl) (hdef : defaultsOf params X.env = ([], []) := by rfl)
    (hbind : ∀ (q : Str) (cl : List (Str × Addr)) (pm cv ctv : Value), bindArgs (PySem.W.kla_fn "<lambda>" q params body scope cl pm cv ctv) ⟨[], []⟩ = pure [] := by intro _ _ _ _ _; rfl)
    (hdb : (x == ("__debug__" : Str)) = false := by decide) (hd : (a == ("__debug__" : Str)) = false := by decide) (hcd : (a == ("__classdict__" : Str)) = false := by decide) :
    PE X (.Call (.Name x p) [.Lambda params body scope lpos] [] pos) (tLam T TT t) := by
  obtain ⟨fd, F⟩ := S
  have e : dg.dvs X.K = [] := by unfold DefG.dvs; rw [h0]; rfl
  rw [e] at F
  refine ⟨fun pins s σ H Q I h => ?_⟩
  obtain ⟨hT, h⟩ := h
  refine wpAny_Call_Name_kw (ld_glob I hg hm ?_ hdb)
  refine PySem.W.callWith_K (h₀ := X.base) I.ok.mod.kin F.kp ?_ (by rfl) (by rfl)
  show wpAny _ _ (spliced ((false, eval (.Lambda params body scope lpos) X.env) :: backTo pos (starEach [] X.env))) _ _ s
  refine Calls.spliced_cons (lam_make2 I TB hcode hmT hu hT hdef (L.has I.ok) fun f c' pm' ctv H1 s' I1 eN T1 hf hfn hfr hco => ?_)
  refine Calls.spliced_nil ⟨I1.kIn, ?_⟩
  have rc : codeAny (model X.prog X.w) X.A (.call (.ref (dg.ad X.K)) ⟨[.ref f], []⟩) (CR L2.CX0 X.stack X.prog X.w H1 s' Q L2.E0) s' := by
    refine body_runS (k := k + 1) (us := [.ref f]) (vs := [.ref f]) F Sg (hr.mono hk) I1.env0 (FunD.bindsA (ps := [a]) F hb s' [.ref f] rfl) rfl (.cons rfl .nil) fun hr' => ?_
    obtain ⟨t', ht', hq'⟩ := hG _ f c' s' H1 Q (fun E H' Q' => t E σ H' Q') hr' (fun W pn xe E p1 p2 tk hW => pe_actG (i := 0) I1 L hf hfn hfr (hbind _ _ _ _ _) tk hW hr' (fun A outer s H hr2 => hbody A outer s H E f c' hr2) hNg hva hd hcd) hco (h H1 eN T1)
    exact ⟨t', ht'.nox, hq'⟩
  refine wpAny_call (codeAny_mono rc fun r s2 hq => ?_)
  match r, hq with
  | .ok (.ret u), hq => exact I1.after hq
end
end Ah

/-! points: pairs of a number and a text, and their order -/
namespace Ah
open PySem PySem.Spec PyProof.Rows L2 He
abbrev Pt : Type := Int × Str
def ptD (p : Pt) : PyData := .tuple [.int p.1, .str p.2]
/-- a point's pair stands at a -/
def PtAt (H : Hp) (a : Addr) (p : Pt) : Prop := H a = some (.tup [.int p.1, .str p.2])
theorem PtAt.same {H H' : Hp} {a : Addr} {p : Pt} (h : PtAt H a p) (s : Same H H') : PtAt H' a p := s _ _ h
theorem PtAt.dp {K : Frag} {H : Hp} {a : Addr} {p : Pt} (h : PtAt H a p) : Dp K H (.ref a) (ptD p) := .tup (SqT.of h) (.cons (.int _) (.cons (.str _) .nil))
def ptLt (p q : Pt) : Bool := PySem.W.dataLt (ptD p) (ptD q)
theorem ptLt_eq (p q : Pt) : ptLt p q = (decide (p.1 < q.1) || (decide (p.1 = q.1) && decide (p.2.cps.toList < q.2.cps.toList))) := by
  obtain ⟨n, z⟩ := p
  obtain ⟨m, y⟩ := q
  show PyProof.Rows.lexLt PyProof.Rows.itemOrd [.inl 1, .inl n, .inl 1, .inr z.cps.toList, .inl 0] [.inl 1, .inl m, .inl 1, .inr y.cps.toList, .inl 0] = _
  have i1 : PyProof.Rows.itemOrd.blt (.inl 1) (.inl 1) = false := rfl
  have i0 : PyProof.Rows.itemOrd.blt (.inl 0) (.inl 0) = false := rfl
  have e1 : PyProof.Rows.itemOrd.blt (.inl n) (.inl m) = decide (n < m) := rfl
  have e2 : PyProof.Rows.itemOrd.blt (.inl m) (.inl n) = decide (m < n) := rfl
  have e3 : PyProof.Rows.itemOrd.blt (.inr z.cps.toList) (.inr y.cps.toList) = decide (z.cps.toList < y.cps.toList) := rfl
  have e4 : PyProof.Rows.itemOrd.blt (.inr y.cps.toList) (.inr z.cps.toList) = decide (y.cps.toList < z.cps.toList) := rfl
  have en : PyProof.Rows.lexLt PyProof.Rows.itemOrd ([] : List (Int ⊕ List Nat)) [] = false := rfl
  rw [lex_cons, lex_cons, lex_cons, lex_cons, lex_cons, i1, i0, e1, e2, e3, e4, en]
  by_cases h1 : n < m
  · simp [h1]
  · by_cases h2 : m < n
    · simp [h1, h2, show n ≠ m by omega]
    · simp [h1, h2, show n = m by omega]
theorem ptLt_irrefl (p : Pt) : ptLt p p = false := by
  rw [ptLt_eq]
  simp
theorem ptLt_asymm {p q : Pt} (h : ptLt p q = true) : ptLt q p = false := by
  cases e : ptLt q p with
  | false => rfl
  | true =>
    have z := (listOrd itemOrd).trans (PySem.W.keyToks (ptD p)) (PySem.W.keyToks (ptD q)) (PySem.W.keyToks (ptD p)) h e
    exact absurd ((ptLt_irrefl p).symm.trans z) Bool.false_ne_true
theorem ptLt_trans {p q r : Pt} (h : ptLt p q = true) (h' : ptLt q r = true) : ptLt p r = true := (listOrd itemOrd).trans (PySem.W.keyToks (ptD p)) (PySem.W.keyToks (ptD q)) (PySem.W.keyToks (ptD r)) h h'
theorem ptLt_total {p q : Pt} (h : ptLt p q = false) (h' : ptLt q p = false) : p = q := by
  rw [ptLt_eq] at h h'
  obtain ⟨n, z⟩ := p
  obtain ⟨m, y⟩ := q
  simp only [Bool.or_eq_false_iff, Bool.and_eq_false_iff, decide_eq_false_iff_not] at h h'
  have e : n = m := by omega
  subst e
  have e2 : z.cps.toList = y.cps.toList := List.le_antisymm (List.not_lt.mp (h'.2.resolve_left (by simp))) (List.not_lt.mp (h.2.resolve_left (by simp)))
  rw [PySem.W.str_of_cps e2]
theorem pt_alike (p q : Pt) : PySem.W.alike (ptD p) (ptD q) = true := rfl
section
variable {X : Cx} {k : Nat}
def rPt (f : Pt → Pt → Bool) : V → V → Hp → VK → Prop := fun x y H Q => ∃ (a b : Addr) (p q : Pt), x = .ref a ∧ y = .ref b ∧ PtAt H a p ∧ PtAt H b q ∧ Q (.bl (f p q)) H
theorem op_ltP (hu : X.A.units + 64 < cLine) : OpR X (compareOp .Lt) (rPt ptLt) := by
  intro pins s σ H x y v u Q I rx ry h
  obtain ⟨a, b, p, q, rfl, rfl, hp, hq, k⟩ := h
  obtain ⟨as, r1⟩ := Dp.reads I _ _ v hp.dp rx
  obtain ⟨bs, r2⟩ := Dp.reads I _ _ u hq.dp ry
  exact PySem.W.lt_data r1 r2 (pt_alike p q) (by intro z; cases z) (by simp [ptD, PyData.depth, PyData.depthAll]; omega) ⟨.bl _, H, I, rfl, k⟩
end
/-! is_point -/
def textOk (l : List Nat) : Bool := if l.getLast? = some 33 then isKeyL l.dropLast else isKeyL l
/-- is_point of a pair, by the kinds of its items -/
def ptK (ku kt : Kn) : Bool := ku.within 0 4294967296 && (match kt with
  | .str z => z.cps.toList.isEmpty || ((match ku with | .int i => !decide (i = 4294967296) | _ => true) && textOk z.cps.toList)
  | _ => false)
theorem ptK_is (i : Int) (z : Str) : ptK (.int i) (.str z) = ((Kn.int i).within 0 4294967296 && (z.cps.toList.isEmpty || (!decide (i = 4294967296) && textOk z.cps.toList))) := rfl
theorem textOk_snoc (l : List Nat) (c : Nat) : textOk (l ++ [c]) = if c = 33 then isKeyL l else isKeyL (l ++ [c]) := by
  unfold textOk
  simp
/-- is_point(x) is b -/
inductive PtV (K : Frag) (H : Hp) : V → Bool → Prop
  | no {x : V} {k : Kn} (h : Is K H x k) (hk : k.isT "tuple" = false) : PtV K H x false
  | len {a : Addr} {l : List V} (e : H a = some (.tup l)) (hl : l.length ≠ 2) (hm : l.length ≤ 1000) : PtV K H (.ref a) false
  | two {a : Addr} {u t : V} {ku kt : Kn} (e : H a = some (.tup [u, t])) (hu : Is K H u ku) (ht : Is K H t kt) (hs : kt.small) : PtV K H (.ref a) (ptK ku kt)
theorem PtV.same {K : Frag} {H H' : Hp} {x : V} {b : Bool} (h : PtV K H x b) (s : Same H H') : PtV K H' x b := by
  cases h with
  | no h hk => exact .no (h.same s) hk
  | len e hl hm => exact .len (s _ _ e) hl hm
  | two e hu ht hs => exact .two (s _ _ e) (hu.same s) (ht.same s) hs
/-- a point by its parts -/
def isPt (p : Pt) : Bool := ptK (.int p.1) (.str p.2)
theorem PtAt.ptv {K : Frag} {H : Hp} {a : Addr} {p : Pt} (h : PtAt H a p) (hp : isPt p = true) (hs : p.2.length ≤ 1000000) : PtV K H (.ref a) true := by
  have z : PtV K H (.ref a) (ptK (.int p.1) (.str p.2)) := .two h (.int _) (.str _) hs
  rw [show ptK (.int p.1) (.str p.2) = true from hp] at z
  exact z
/-- an error of the class C with one field goes out, over the heap H -/
def Out1 (K : Frag) (E : XK) (H : Hp) (C f : Str) (v : V) : Prop := ∀ (H' : Hp) (d : Addr), Same H H' → H' d = some (.xd [(f, v)]) → E (.ref (ga K C)) (some d) H'
def Out2 (K : Frag) (E : XK) (H : Hp) (C f g : Str) (v w : V) : Prop := ∀ (H' : Hp) (d : Addr), Same H H' → H' d = some (.xd [(g, w), (f, v)]) → E (.ref (ga K C)) (some d) H'
theorem Out1.same {K : Frag} {E : XK} {H H' : Hp} {C f : Str} {v : V} (o : Out1 K E H C f v) (s : Same H H') : Out1 K E H' C f v := fun H2 d s2 h => o H2 d (s.trans s2) h
theorem Out2.same {K : Frag} {E : XK} {H H' : Hp} {C f g : Str} {v w : V} (o : Out2 K E H C f g v w) (s : Same H H') : Out2 K E H' C f g v w := fun H2 d s2 h => o H2 d (s.trans s2) h
/-- raise C(v) -/
theorem Out1.mk {K : Frag} {E : XK} {H : Hp} {C f : Str} {v : V} (o : Out1 K E H C f v) {ta : TA} {σ : L2.St} (ha : ∀ Q' : List V → Hp → Prop, Q' [v] H → ta σ H Q') : tMkO (ga K C) (spX1 (ga K C) f) [] ta σ H fun cls d H' => E cls d H' := by
  refine ha _ ⟨by simp, mkX1 fun d hd => o _ d (Same.upd (Same.refl _) hd) upd_same⟩
theorem Out2.mk {K : Frag} {E : XK} {H : Hp} {C f g : Str} {v w : V} (o : Out2 K E H C f g v w) {ta : TA} {σ : L2.St} (ha : ∀ Q' : List V → Hp → Prop, Q' [v, w] H → ta σ H Q') : tMkO (ga K C) (spX2 (ga K C) f g) [] ta σ H fun cls d H' => E cls d H' := by
  refine ha _ ⟨by simp, mkX2 fun d hd => o _ d (Same.upd (Same.refl _) hd) upd_same⟩
/-! arcs -/
def ArcAt (K : Frag) (H : Hp) (x : Addr) (p q : Pt) : Prop := ∃ dx a b : Addr, H x = some (.ins (ga K "Arc") dx [("own_start", .ref a), ("own_end", .ref b)]) ∧ PtAt H a p ∧ PtAt H b q
theorem ArcAt.same {K : Frag} {H H' : Hp} {x : Addr} {p q : Pt} (h : ArcAt K H x p q) (s : Same H H') : ArcAt K H' x p q := by
  obtain ⟨dx, a, b, h1, h2, h3⟩ := h
  exact ⟨dx, a, b, s _ _ h1, s _ _ h2, s _ _ h3⟩
theorem textOk_key {l : List Nat} (h : isKeyL l = true) : textOk l = true := by
  unfold textOk
  split
  · rename_i e
    have m : (33 : Nat) ∈ l := List.mem_of_getLast? e
    unfold isKeyL at h
    have h3 := List.all_eq_true.mp (Bool.and_eq_true_iff.mp h).2 33 m
    exact absurd h3 (by decide)
  · exact h
theorem textOk_behind {z : Str} (h : isKeyL z.cps.toList = true) : textOk (z ++ Str.ofString "!").cps.toList = true := by
  rw [tl_app, show (Str.ofString "!").cps.toList = [33] by decide +kernel, textOk_snoc, if_pos rfl]
  exact h
theorem isPt_of {v : Int} {z : Str} (h0 : 0 ≤ v) (h1 : v < 4294967296) (h : z.cps.toList = [] ∨ textOk z.cps.toList = true) : isPt (v, z) = true := by
  show ptK (.int v) (.str z) = true
  rw [ptK_is]
  have e : (Kn.int v).within 0 4294967296 = true := by
    simp [Kn.within]
    omega
  rw [e, decide_eq_false (by omega)]
  rcases h with h | h
  · rw [h]
    rfl
  · rw [h]
    simp
theorem strOk_behind {z : Str} (h : PyData.strOk z = true) : PyData.strOk (z ++ Str.ofString "!") = true := by
  unfold PyData.strOk at h ⊢
  rw [← Array.all_toList] at h ⊢
  rw [tl_app, List.all_append, h]
  decide +kernel
theorem ptFalse {K : Frag} {H : Hp} {x : V} {b : Bool} (e : b = false) (h : PtV K H x b) : PtV K H x false := e ▸ h
end Ah

/-! a method with a starred parameter: its rest is a new tuple -/
namespace Ah
open PySem PySem.Spec PyProof.Rows L2 He
def tupO (rs : List Value) : Obj := { cls := .type "tuple", data := .seq rs.toArray }
abbrev pushT (s : Shared) (rs : List Value) : Shared := { s with heap := s.heap.push (tupO rs) }
/-- the def at f, called by n own arguments and a rest -/
structure FnV (P : Program) (w : World) (K : Frag) (mg : Str → Option Value) (base : Heap) (k : Nat) (f : Addr) (n : Nat) (sp : Sp) : Prop where
  run : ∀ (A : Around) (outer : List Env) (s : Shared) (H : Hp) (us rs : List Value) (vs : List V) (Q : VK) (E : XK) (R : Result → Shared → Prop), Rm k A → Env0 P w K mg base A outer (pushT s rs) H → us.length = n → Vals vs us → K.In s.heap → rs.length ≤ sizeLine →
    sp (vs ++ [.ref s.heap.objs.size]) H Q E → (∀ r s', CR (L2.CX P w) outer P w H (pushT s rs) Q E r s' → R r s') → codeAny (model P w) A (.call (.ref f) ⟨us ++ rs, []⟩) R s
  kp : PySem.W.keepIn K (.ref f) = true
section
variable {P : Program} {w : World} {K : Frag} {mg : Str → Option Value} {base : Heap}
theorem okV {N ps : List Str} {x : Str} {k : Nat} {sp : Sp} {d : DefG} (S : Stands K d) (h0 : d.dfl = []) (sc : FnScope N (ps ++ [x]) d.scope) (len : ∀ vs H Q E, sp vs H Q E → vs.length = ps.length + 1)
    (hb : ∀ (kV doc pm : Value) (an : Option Addr) (cdv ct : Value) (us rs : List Value), us.length = ps.length → bindArgs (PySem.W.fnOf d.name d.qual d.params d.body d.scope .none kV doc pm an cdv ct) ⟨us ++ rs, []⟩ = (newTuple rs >>= fun t => pure ((ps ++ [x]).zip (us ++ [t]))))
    (hbody : BodyB (L2.CX P w) P w K mg base N d k sp) : FnV P w K mg base (k + 1) (d.ad K) ps.length sp := by
  obtain ⟨fd, F⟩ := S
  have e : d.dvs K = [] := by unfold DefG.dvs; rw [h0]; rfl
  rw [e] at F
  refine ⟨fun A outer s H us rs vs Q E R hr e0 hl r KX hz hsp hR => codeAny_mono ?_ fun res s' hq => hR res s' hq, F.kp⟩
  obtain ⟨oc, od, dV, kV, doc, pm, an, cdv, ct, osl, rfl, lk, hcd, hdf, _⟩ := F.ex
  have ed : dV = .none := by
    rcases hdf with ⟨_, z⟩ | ⟨z, _⟩
    · exact z
    · exact absurd rfl z
  subst ed
  have lim : (pushT s rs).heap.NoLimit := e0.mod.nolimit.keeps fun b o e => (e0.bs b o e).1
  have KX1 : K.In (pushT s rs).heap := e0.mod.kin.keeps fun b o e => (e0.bs b o e).1
  have hl2 : (vs ++ [V.ref s.heap.objs.size]).length = (ps ++ [x]).length := by rw [len _ _ _ _ hsp, List.length_append]; rfl
  have r2 : Vals (vs ++ [V.ref s.heap.objs.size]) (us ++ [.ref s.heap.objs.size]) := r.append (.cons rfl .nil)
  have par : ∀ y ∈ (ps ++ [x]).zip (us ++ [Value.ref s.heap.objs.size]), d.scope.names.lookup y.1 = some .local ∨ (d.scope.names.lookup y.1 = some .cell ∧ ((cellsFrom ((pushT s rs).heap.objs.size + 1) d.scope.names []).lookup y.1).isSome = true) := by
    rintro ⟨n, v⟩ hy
    cases sc.par n (List.of_mem_zip hy).1 with
    | inl q => exact Or.inl q
    | inr q => exact Or.inr ⟨q, PySem.W.cellsFrom_some _ _ _ (Or.inl q)⟩
  refine codeAny_call_function hr.r.depth (KX _ _ lk) rfl sc.co sc.gen rfl (PySem.W.codeRec_of KX hcd) ?_
  rw [hb kV doc pm an cdv ct us rs hl]
  refine wpAny_bind (wpAny_newTuple (wpAny_pure ?_) hz)
  refine wpAny_newFunctionEnv_cells sc.kind par fun env he s1 x1 => ?_
  subst he
  refine ⟨lim.keeps x1.toInCall.keep, codeAny_func ?_⟩
  have ec : CodeV K (d.ad K) = cdv := by
    unfold CodeV
    rw [lk]
  subst ec
  have hr' : Rm k (A.deeper (envOfC d.qual d.scope (pushT s rs).heap.objs.size (d.ad K) (CodeV K (d.ad K)))) := ⟨hr.r.deeper _, hr.g⟩
  obtain ⟨t, ht, hq⟩ := hbody A outer (pushT s rs) H _ Q E hr' hsp
  have I := inv_start (CX := L2.CX P w) (E := E) sc hr.r.hd e0 hl2 r2 x1
  refine wpAny_mono (ht.run [] s1 (L2.start N _) H _ I hq) (fun fl s' hs => ?_) fun _ _ hs => hs
  cases fl with
  | ret u =>
    obtain ⟨v, _, H', J, rv, q⟩ := hs
    exact ⟨v, H', J.os, J.bare, J.base, J.hok, rv, q⟩
  | next =>
    obtain ⟨_, H', J, q⟩ := hs
    exact ⟨V.non, H', J.os, J.bare, J.base, J.hok, rfl, q⟩
  | brk => exact hs.elim fun _ z => z.elim fun _ z => z.2.elim
  | cont => exact hs.elim fun _ z => z.elim fun _ z => z.2.elim
end
section
variable {X : Cx} {k j : Nat} {f C : Addr} {sp : Sp} {E : XK} {x m : Str} {e o : Expr} {es : List Expr} {t : TA} {ta : TE} {p pos apos : Pos}
/-- o.m(e, ..), m's def has self and a starred parameter -/
theorem pe_mtV {pl : Sem Bool} (he : PE X o ta) (c : Cls X.K C) (hm : Meth X.K C m f) (F : FnV X.prog X.w X.K X.mg X.base k f 1 sp) (hr : Rm j X.A) (hx : Passes (L2.CX X.prog X.w) X E) (ha : PA X (e :: es) t) (hk : k ≤ j := by decide)
    (hst : starEach (e :: es) X.env = (false, eval e X.env) :: starEach es X.env := by rfl) (hpl : (backTo pos (starEach es X.env)).any (·.1) = false := by rfl)
    (ht : eval (.Call (.Attribute o m apos) (e :: es) [] pos) X.env = (do
      let ov ← eval o X.env
      standAt apos.atName
      let (f, first) ← holding [ov] (getMethod ov m pl)
      callWith pos f first (backTo pos (starEach (e :: es) X.env)) (backToKw pos (keywordEach [] X.env))) := by rfl) :
    PE X (.Call (.Attribute o m apos) (e :: es) [] pos) (tMeth C m (fun vs H Q E => ∃ x ws, vs = x :: ws ∧ ws.length ≤ sizeLine ∧ ∀ p, H p = none → sp [x, .ref p] (upd H p (.tup ws)) Q E) [] E ta t) := by
  refine ⟨fun pins s σ H Q I h => PySem.W.methodCall_KW (pl := pl) (thn (he.run pins s σ H _ I h) fun u s1 ⟨x, H1, I1, rx, a, dx, fs, ex, ea, l, q⟩ => ?_) ht⟩
  subst ex
  cases (show u = Value.ref a from rx)
  refine getmeth_ok I1 ea c hm l (PySem.W.callWith_K (first := [.ref a]) (h₀ := X.base) I.ok.mod.kin hm.kp (thn (ha.run pos pins s1 σ H1 _ I1 q) fun us s2 ⟨vs, H2, I2, r, q2⟩ => ⟨I2.kIn, ?_⟩) hst hpl)
  simp only [List.append_nil] at q2
  obtain ⟨x, ws, e1, hz, q3⟩ := q2
  simp only [List.cons.injEq] at e1
  obtain ⟨rfl, rfl⟩ := e1
  have hf : H2 s2.heap.objs.size = none := I2.hok.fresh (Nat.le_refl _)
  have I3 : L2.Inv X pins σ (upd H2 s2.heap.objs.size (.tup vs)) (pushT s2 us) := by
    refine I2.laid (t' := s2.toks) (fun b u e => Heap.get?_push_of_some _ e) (Nat.le_refl _) ?_
    exact ⟨hz, us, r, ⟨_, Heap.get?_push_size _ rfl, rfl, _, rfl⟩⟩
  refine wpAny_call (F.run X.A X.stack s2 _ [.ref a] us [.ref a] Q E _ (hr.mono hk) I3.env0 rfl (.cons rfl .nil) I2.kIn (by rw [← r.length]; exact hz) (q3 _ hf) fun res s' hq => ?_)
  match res, hq with
  | .error e, hq => exact hx pins σ _ _ e s' I3 hq
  | .ok (.ret u), hq => exact I3.after hq
end
end Ah

/-! the state of a law's turn: what was there is kept, the pool is a pool, the tables are tables -/
namespace Ah
open PySem PySem.Spec PyProof.Rows L2 He LamX
/-- cut a suite behind its first statement: N is what comes next -/
theorem seq_gen {A B : TS} {D : Ends} {σ : L2.St} {H : Hp} (P : L2.St → Hp → Prop) (h : ∀ N : L2.St → Hp → Prop, (∀ σ' H', P σ' H' → N σ' H') → A { D with nx := N } σ H) (hB : ∀ σ' H', P σ' H' → B D σ' H') : tSeq A B D σ H := h (B D) hB
theorem one_gen {A : TS} {D : Ends} {σ : L2.St} {H : Hp} (P : L2.St → Hp → Prop) (h : ∀ N : L2.St → Hp → Prop, (∀ σ' H', P σ' H' → N σ' H') → A { D with nx := N } σ H) (hB : ∀ σ' H', P σ' H' → D.nx σ' H') : A D σ H := h D.nx hB
/-- all but the pool and the tables stay -/
def Nx (pl : Addr) (H H' : Hp) : Prop := ∀ b o, b ≠ pl → H b = some o → (∀ ps, o ≠ .tbl ps) → H' b = some o
theorem Nx.refl {pl : Addr} {H : Hp} : Nx pl H H := fun _ _ _ h _ => h
theorem Nx.trans {pl : Addr} {H H1 H2 : Hp} (a : Nx pl H H1) (b : Nx pl H1 H2) : Nx pl H H2 := fun c o n h t => b c o n (a c o n h t) t
theorem Nx.same {pl : Addr} {H H' : Hp} (s : Same H H') : Nx pl H H' := fun b o _ h _ => s b o h
theorem Nx.ex {pl : Addr} {H H' : Hp} (s : Ex pl H H') : Nx pl H H' := fun b o n h _ => s b o n h
theorem Nx.ext {pl : Addr} {H H' : Hp} (s : ExtN H H') : Nx pl H H' := fun b o _ h t => s b o h t
theorem Nx.new {pl p : Addr} {H H' : Hp} {o : HO} (s : Nx pl H H') (h : H' p = none) : Nx pl H (upd H' p o) := s.trans (.same (Same.upd (Same.refl _) h))
structure Bs (T : List (Addr × Str)) (H0 : Hp) (pl : Addr) (H : Hp) : Prop where
  ext : ExtN H0 H
  pool : PoolAt H pl
  tabs : Tabs T H
  new : H0 pl = none ∨ ∃ ps, H0 pl = some (.tbl ps)
section
variable {T : List (Addr × Str)} {H0 H H' : Hp} {pl r : Addr}
theorem Bs.same (b : Bs T H0 pl H) (s : Same H H') : Bs T H0 pl H' := ⟨b.ext.trans (.of s), b.pool.same s, b.tabs.ext s, b.new⟩
theorem Bs.upd {p : Addr} {o : HO} (b : Bs T H0 pl H) (h : H p = none) : Bs T H0 pl (upd H p o) := b.same (Same.upd (Same.refl _) h)
theorem Bs.lam (b : Bs T H0 pl H) (e : ExtN H H') (t : Tabs T H') : Bs T H0 pl H' := by
  refine ⟨b.ext.trans e, ?_, t, b.new⟩
  obtain ⟨p, q, h⟩ := b.pool
  exact ⟨p, q, e _ _ h (fun ps z => by cases z)⟩
theorem Bs.ex (b : Bs T H0 pl H) (x : Ex pl H H') (hp : PoolAt H' pl) : Bs T H0 pl H' := by
  obtain ⟨p, q, h⟩ := b.pool
  refine ⟨fun c o hc ht => x c o (fun z => ?_) (b.ext c o hc ht), hp, fun t ht => ?_, b.new⟩
  · rw [z] at hc
    rcases b.new with n | ⟨ps, n⟩
    · rw [n] at hc
      cases hc
    · rw [n] at hc
      cases hc
      exact ht ps rfl
  · obtain ⟨ps, h1, h2, h3⟩ := b.tabs t ht
    refine ⟨ps, x _ _ (fun z => ?_) h1, h2, fun pos cv hc => ?_⟩
    · rw [z, h] at h1
      cases h1
    · obtain ⟨c, e1, e2⟩ := h3 pos cv hc
      refine ⟨c, e1, x _ _ (fun z => ?_) e2⟩
      rw [z, h] at e2
      unfold CodeO at e2
      cases e2
/-- a new address is not the pool's -/
theorem Bs.ne (b : Bs T H0 pl H) (h : H r = none) : r ≠ pl := b.pool.ne h
theorem PtAt.nx {p : Pt} (h : PtAt H r p) (b : PoolAt H pl) (x : Nx pl H H') : PtAt H' r p := by
  obtain ⟨i, j, e⟩ := b
  exact x _ _ (ne_of h e (fun z => by cases z)) h (fun ps z => by cases z)
theorem ArcAt.nx {K : Frag} {p q : Pt} (h : ArcAt K H r p q) (b : PoolAt H pl) (x : Nx pl H H') : ArcAt K H' r p q := by
  obtain ⟨dx, a, c, h1, h2, h3⟩ := h
  have bb := b
  obtain ⟨i, j, e⟩ := b
  exact ⟨dx, a, c, x _ _ (ne_of h1 e (fun z => by cases z)) h1 (fun ps z => by cases z), h2.nx bb x, h3.nx bb x⟩
end
theorem freeN {H H' : Hp} {p : Addr} (e : ExtN H H') (h : H' p = none) : H p = none ∨ ∃ ps, H p = some (.tbl ps) := by
  cases q : H p with
  | none => exact .inl rfl
  | some o =>
    by_cases ht : ∃ ps, o = .tbl ps
    · obtain ⟨ps, rfl⟩ := ht
      exact .inr ⟨ps, rfl⟩
    · have z := e p o q fun ps hz => ht ⟨ps, hz⟩
      rw [h] at z
      cases z
theorem seqN {K : Frag} {H H' : Hp} {a : Addr} {xs : List V} (h : SqL K H a xs) (e : ExtN H H') : SqL K H' a xs := by
  rcases h with (h | ⟨o, h⟩) | h
  · exact .inl (.inl (e _ _ h fun ps z => by cases z))
  · exact .inl (.inr ⟨o, e _ _ h fun ps z => by cases z⟩)
  · exact .inr h
theorem same_made {H : Hp} {x dx C : Addr} {o : HO} {fs : List (Str × V)} (nx : H x = none) (ndx : H dx = none) (ne : dx ≠ x) : Same H (upd (upd H dx o) x (.ins C dx fs)) := Same.upd (Same.upd (Same.refl _) ndx) (by rw [upd_ne ne.symm]; exact nx)
theorem sameOf {H H' : Hp} {p : Addr} {o : HO} (n : H p = none) (h : upd H p o = H') : Same H H' := by
  subst h
  exact Same.upd (Same.refl _) n
theorem atOf {H H' : Hp} {p : Addr} {o : HO} (h : upd H p o = H') : H' p = some o := by
  subst h
  exact upd_same
theorem PoolAt.ne' {H : Hp} {a b : Addr} {o : HO} (h : PoolAt H a) (hb : H b = none) : b ≠ a := h.ne hb
/-- an object that stays -/
theorem Nx.at {pl p : Addr} {H H' : Hp} {o : HO} (x : Nx pl H H') (h : H p = some o) (n : p ≠ pl) (t : ∀ ps, o ≠ .tbl ps := by intro ps z; cases z) : H' p = some o := x p o n h t
theorem madeOf {H H' : Hp} {x dx : Addr} {o o' : HO} (nx : H x = none) (ndx : H dx = none) (ne : dx ≠ x) (h : upd (upd H dx o) x o' = H') : Same H H' := by
  subst h
  exact Same.upd (Same.upd (Same.refl _) ndx) (by rw [upd_ne ne.symm]; exact nx)
end Ah

namespace k04
open PySem PySem.Spec PyProof.Rows L2 He Ah
local macro_rules | `(tactic| walk_at "st") => `(tactic| repeat (first | refine ⟨_, rfl, ?_⟩ | refine ⟨_, _, rfl, rfl, ?_⟩))
local macro_rules | `(tactic| walk_at "lk") => `(tactic| repeat (first | exact look0 | rw [lookS (by decide +kernel)]))
local macro_rules | `(tactic| walk_at "pf") => `(tactic| repeat (first | rw [putF0] | rw [putF_hit] | rw [putFS (by decide +kernel)]))
local macro_rules | `(tactic| walk_at "nm") => `(tactic| simp only [tRet, tRetN, tSeq, tNext, tAsg, gName, tDrop, tIfS, tTest, tB, tNot, tAnd, tOr, tAndV, tOrV, tNotV, tIf, tC, tCons, tNil, tCB, tCall, tOp, tUn, tChain, rI0, rI, tVar, tSl, tPart, tNoPart, tLst, tTup, gSub, tPar, cxOf, L2.Cx.nox, L2.Cx.wish, L2.start, List.map_cons, List.map_nil, List.length_cons, List.length_nil, List.nil_append, List.cons_append, List.append_nil, Nat.zero_add, Nat.reduceAdd, Nat.reduceSub, Nat.sub_self, Nat.sub_zero, List.replicate_succ, List.replicate_zero, List.getElem?_cons_zero, List.getElem?_cons_succ, List.set_cons_zero, List.set_cons_succ, Option.some.injEq, exists_eq_left, exists_eq_left', exists_eq_right, exists_and_left, decide_eq_true_eq, decide_eq_false_iff_not, Bool.not_eq_true', V.int.injEq, V.bl.injEq, V.str.injEq, V.ref.injEq, List.cons.injEq, and_true, true_and, if_true, if_false, Bool.false_eq_true, Bool.not_true, Bool.not_false, ite_true, ite_false])
def top (i : Nat) : Stmt := PySem.Challenge.pw_arccursors_k04_errors_of_arcs.main.body.getD i (.Pass ⟨0, 0, 0, 0⟩)
abbrev s_is_integer : Stmt := top 9
def g_is_integer : DefG := { ad := glA "is_integer", name := "is_integer", qual := "is_integer", params := defArgs s_is_integer, body := defBody s_is_integer, scope := defScope s_is_integer }
abbrev s_in_range : Stmt := top 10
def g_in_range : DefG := { ad := glA "in_range", name := "in_range", qual := "in_range", params := defArgs s_in_range, body := defBody s_in_range, scope := defScope s_in_range }
abbrev s_is_key : Stmt := top 11
def g_is_key : DefG := { ad := glA "is_key", name := "is_key", qual := "is_key", params := defArgs s_is_key, body := defBody s_is_key, scope := defScope s_is_key }
abbrev s_is_point : Stmt := top 12
def g_is_point : DefG := { ad := glA "is_point", name := "is_point", qual := "is_point", params := defArgs s_is_point, body := defBody s_is_point, scope := defScope s_is_point }
abbrev s_check_point : Stmt := top 13
def g_check_point : DefG := { ad := glA "check_point", name := "check_point", qual := "check_point", params := defArgs s_check_point, body := defBody s_check_point, scope := defScope s_check_point }
abbrev s_split_at : Stmt := top 15
def g_split_at : DefG := { ad := glA "split_at", name := "split_at", qual := "split_at", params := defArgs s_split_at, body := defBody s_split_at, scope := defScope s_split_at }
abbrev s_check_arc : Stmt := top 16
def g_check_arc : DefG := { ad := glA "check_arc", name := "check_arc", qual := "check_arc", params := defArgs s_check_arc, body := defBody s_check_arc, scope := defScope s_check_arc }
abbrev s_check_arcs : Stmt := top 17
def g_check_arcs : DefG := { ad := glA "check_arcs", name := "check_arcs", qual := "check_arcs", params := defArgs s_check_arcs, body := defBody s_check_arcs, scope := defScope s_check_arcs }
abbrev s_tiling_fault : Stmt := top 18
def g_tiling_fault : DefG := { ad := glA "tiling_fault", name := "tiling_fault", qual := "tiling_fault", params := defArgs s_tiling_fault, body := defBody s_tiling_fault, scope := defScope s_tiling_fault }
abbrev s__law_hand : Stmt := top 20
def g__law_hand : DefG := { ad := glA "_law_hand", name := "_law_hand", qual := "_law_hand", params := defArgs s__law_hand, body := defBody s__law_hand, scope := defScope s__law_hand }
abbrev s__law_draw : Stmt := top 21
def g__law_draw : DefG := { ad := glA "_law_draw", name := "_law_draw", qual := "_law_draw", params := defArgs s__law_draw, body := defBody s__law_draw, scope := defScope s__law_draw }
abbrev s__law_key : Stmt := top 22
def g__law_key : DefG := { ad := glA "_law_key", name := "_law_key", qual := "_law_key", params := defArgs s__law_key, body := defBody s__law_key, scope := defScope s__law_key }
abbrev s__law_point : Stmt := top 23
def g__law_point : DefG := { ad := glA "_law_point", name := "_law_point", qual := "_law_point", params := defArgs s__law_point, body := defBody s__law_point, scope := defScope s__law_point }
abbrev s__law_refused : Stmt := top 24
def g__law_refused : DefG := { ad := glA "_law_refused", name := "_law_refused", qual := "_law_refused", params := defArgs s__law_refused, body := defBody s__law_refused, scope := defScope s__law_refused }
abbrev s_law : Stmt := top 25
def g_law : DefG := { ad := glA "law", name := "law", qual := "law", params := defArgs s_law, body := defBody s_law, scope := defScope s_law }
abbrev s_InvalidPoint_init : Stmt := inClass (top 1) 0
def g_InvalidPoint_init : DefG := { ad := mtA "InvalidPoint" "__init__", name := "__init__", qual := "InvalidPoint.__init__", params := defArgs s_InvalidPoint_init, body := defBody s_InvalidPoint_init, scope := defScope s_InvalidPoint_init }
abbrev s_InvalidArc_init : Stmt := inClass (top 2) 0
def g_InvalidArc_init : DefG := { ad := mtA "InvalidArc" "__init__", name := "__init__", qual := "InvalidArc.__init__", params := defArgs s_InvalidArc_init, body := defBody s_InvalidArc_init, scope := defScope s_InvalidArc_init }
abbrev s_InvalidArcs_init : Stmt := inClass (top 3) 0
def g_InvalidArcs_init : DefG := { ad := mtA "InvalidArcs" "__init__", name := "__init__", qual := "InvalidArcs.__init__", params := defArgs s_InvalidArcs_init, body := defBody s_InvalidArcs_init, scope := defScope s_InvalidArcs_init }
abbrev s_Arc_init : Stmt := inClass (top 14) 0
def g_Arc_init : DefG := { ad := mtA "Arc" "__init__", name := "__init__", qual := "Arc.__init__", params := defArgs s_Arc_init, body := defBody s_Arc_init, scope := defScope s_Arc_init }
abbrev s_Arc_start : Stmt := inClass (top 14) 1
def g_Arc_start : DefG := { ad := gtA "Arc" "start", name := "start", qual := "Arc.start", params := defArgs s_Arc_start, body := defBody s_Arc_start, scope := defScope s_Arc_start }
abbrev s_Arc_end : Stmt := inClass (top 14) 2
def g_Arc_end : DefG := { ad := gtA "Arc" "end", name := "end", qual := "Arc.end", params := defArgs s_Arc_end, body := defBody s_Arc_end, scope := defScope s_Arc_end }
abbrev s_Arc_contains : Stmt := inClass (top 14) 3
def g_Arc_contains : DefG := { ad := mtA "Arc" "__contains__", name := "__contains__", qual := "Arc.__contains__", params := defArgs s_Arc_contains, body := defBody s_Arc_contains, scope := defScope s_Arc_contains }
abbrev s_Arc_and : Stmt := inClass (top 14) 4
def g_Arc_and : DefG := { ad := mtA "Arc" "__and__", name := "__and__", qual := "Arc.__and__", params := defArgs s_Arc_and, body := defBody s_Arc_and, scope := defScope s_Arc_and }
abbrev s_Arc_split : Stmt := inClass (top 14) 5
def g_Arc_split : DefG := { ad := mtA "Arc" "split", name := "split", qual := "Arc.split", params := defArgs s_Arc_split, body := defBody s_Arc_split, scope := defScope s_Arc_split }
abbrev s_Arc_eq : Stmt := inClass (top 14) 6
def g_Arc_eq : DefG := { ad := mtA "Arc" "__eq__", name := "__eq__", qual := "Arc.__eq__", params := defArgs s_Arc_eq, body := defBody s_Arc_eq, scope := defScope s_Arc_eq }
abbrev s_Arc_repr : Stmt := inClass (top 14) 7
def g_Arc_repr : DefG := { ad := mtA "Arc" "__repr__", name := "__repr__", qual := "Arc.__repr__", params := defArgs s_Arc_repr, body := defBody s_Arc_repr, scope := defScope s_Arc_repr }
/-- what the top has written -/
structure Txt (K : Frag) (mg : Str → Option Value) : Prop where
  d_is_integer : Stands K g_is_integer
  d_in_range : Stands K g_in_range
  d_is_key : Stands K g_is_key
  d_is_point : Stands K g_is_point
  d_check_point : Stands K g_check_point
  d_split_at : Stands K g_split_at
  d_check_arc : Stands K g_check_arc
  d_check_arcs : Stands K g_check_arcs
  d_tiling_fault : Stands K g_tiling_fault
  d__law_hand : Stands K g__law_hand
  d__law_draw : Stands K g__law_draw
  d__law_key : Stands K g__law_key
  d__law_point : Stands K g__law_point
  d__law_refused : Stands K g__law_refused
  d_law : Stands K g_law
  d_InvalidPoint_init : Stands K g_InvalidPoint_init
  d_InvalidArc_init : Stands K g_InvalidArc_init
  d_InvalidArcs_init : Stands K g_InvalidArcs_init
  d_Arc_init : Stands K g_Arc_init
  d_Arc_start : Stands K g_Arc_start
  d_Arc_end : Stands K g_Arc_end
  d_Arc_contains : Stands K g_Arc_contains
  d_Arc_and : Stands K g_Arc_and
  d_Arc_split : Stands K g_Arc_split
  d_Arc_eq : Stands K g_Arc_eq
  d_Arc_repr : Stands K g_Arc_repr
  m_is_integer : mg "is_integer" = some (.ref (ga K "is_integer"))
  m_in_range : mg "in_range" = some (.ref (ga K "in_range"))
  m_is_key : mg "is_key" = some (.ref (ga K "is_key"))
  m_is_point : mg "is_point" = some (.ref (ga K "is_point"))
  m_check_point : mg "check_point" = some (.ref (ga K "check_point"))
  m_split_at : mg "split_at" = some (.ref (ga K "split_at"))
  m_check_arc : mg "check_arc" = some (.ref (ga K "check_arc"))
  m_check_arcs : mg "check_arcs" = some (.ref (ga K "check_arcs"))
  m_tiling_fault : mg "tiling_fault" = some (.ref (ga K "tiling_fault"))
  m__law_hand : mg "_law_hand" = some (.ref (ga K "_law_hand"))
  m__law_draw : mg "_law_draw" = some (.ref (ga K "_law_draw"))
  m__law_key : mg "_law_key" = some (.ref (ga K "_law_key"))
  m__law_point : mg "_law_point" = some (.ref (ga K "_law_point"))
  m__law_refused : mg "_law_refused" = some (.ref (ga K "_law_refused"))
  m_law : mg "law" = some (.ref (ga K "law"))
  m_InvalidPoint : mg "InvalidPoint" = some (.ref (ga K "InvalidPoint"))
  m_InvalidArc : mg "InvalidArc" = some (.ref (ga K "InvalidArc"))
  m_InvalidArcs : mg "InvalidArcs" = some (.ref (ga K "InvalidArcs"))
  m_Arc : mg "Arc" = some (.ref (ga K "Arc"))
  c_Arc : Cls K (ga K "Arc")
  k_Arc : Mk K (ga K "Arc") (ma K (ga K "Arc") "__init__")
  n_Arc_own_start : NoAttr K (ga K "Arc") "own_start"
  n_Arc_own_end : NoAttr K (ga K "Arc") "own_end"
  e_Arc_contains : Meth K (ga K "Arc") "__contains__" (ma K (ga K "Arc") "__contains__")
  e_Arc_and : Meth K (ga K "Arc") "__and__" (ma K (ga K "Arc") "__and__")
  e_Arc_split : Meth K (ga K "Arc") "split" (ma K (ga K "Arc") "split")
  e_Arc_eq : Meth K (ga K "Arc") "__eq__" (ma K (ga K "Arc") "__eq__")
  e_Arc_repr : Meth K (ga K "Arc") "__repr__" (ma K (ga K "Arc") "__repr__")
  v_MAX_NUMBER : ∃ t, mg "MAX_NUMBER" = some (.int 4294967296 t)
  v_MAX_LENGTH : ∃ t, mg "MAX_LENGTH" = some (.int 20 t)
  v_BEHIND : ∃ t, mg "BEHIND" = some (.str "!" t)
  v_CHARACTERS : ∃ t, mg "CHARACTERS" = some (.str "abcdefghijklmnopqrstuvwxyz0123456789" t)
  b_NotImplemented : mg "NotImplemented" = none
  b_ValueError : mg "ValueError" = none
  b_all : mg "all" = none
  b_bool : mg "bool" = none
  b_enumerate : mg "enumerate" = none
  b_int : mg "int" = none
  b_isinstance : mg "isinstance" = none
  b_len : mg "len" = none
  b_list : mg "list" = none
  b_max : mg "max" = none
  b_min : mg "min" = none
  b_property : mg "property" = none
  b_range : mg "range" = none
  b_repr : mg "repr" = none
  b_sorted : mg "sorted" = none
  b_str : mg "str" = none
  b_tuple : mg "tuple" = none
  r_InvalidPoint : ExcT K mg "InvalidPoint"
  xc_InvalidPoint : ExcC K (ga K "InvalidPoint")
  xf_InvalidPoint : XfC K (ga K "InvalidPoint")
  xn_InvalidPoint_value : PySem.W.findIn K (.ref (ga K "InvalidPoint")) "value" = some none
  xk_InvalidPoint : PySem.W.kitOne K (.ref (ga K "InvalidPoint")) (.type "ValueError") = some true
  em_InvalidPoint_InvalidPoint : PySem.W.exmOne K (.ref (ga K "InvalidPoint")) (.ref (ga K "InvalidPoint")) = some true
  em_InvalidPoint_InvalidArc : PySem.W.exmOne K (.ref (ga K "InvalidPoint")) (.ref (ga K "InvalidArc")) = some false
  em_InvalidPoint_InvalidArcs : PySem.W.exmOne K (.ref (ga K "InvalidPoint")) (.ref (ga K "InvalidArcs")) = some false
  r_InvalidArc : ExcT K mg "InvalidArc"
  xc_InvalidArc : ExcC K (ga K "InvalidArc")
  xf_InvalidArc : XfC K (ga K "InvalidArc")
  xn_InvalidArc_first : PySem.W.findIn K (.ref (ga K "InvalidArc")) "first" = some none
  xn_InvalidArc_second : PySem.W.findIn K (.ref (ga K "InvalidArc")) "second" = some none
  xk_InvalidArc : PySem.W.kitOne K (.ref (ga K "InvalidArc")) (.type "ValueError") = some true
  em_InvalidArc_InvalidPoint : PySem.W.exmOne K (.ref (ga K "InvalidArc")) (.ref (ga K "InvalidPoint")) = some false
  em_InvalidArc_InvalidArc : PySem.W.exmOne K (.ref (ga K "InvalidArc")) (.ref (ga K "InvalidArc")) = some true
  em_InvalidArc_InvalidArcs : PySem.W.exmOne K (.ref (ga K "InvalidArc")) (.ref (ga K "InvalidArcs")) = some false
  r_InvalidArcs : ExcT K mg "InvalidArcs"
  xc_InvalidArcs : ExcC K (ga K "InvalidArcs")
  xf_InvalidArcs : XfC K (ga K "InvalidArcs")
  xn_InvalidArcs_position : PySem.W.findIn K (.ref (ga K "InvalidArcs")) "position" = some none
  xk_InvalidArcs : PySem.W.kitOne K (.ref (ga K "InvalidArcs")) (.type "ValueError") = some true
  em_InvalidArcs_InvalidPoint : PySem.W.exmOne K (.ref (ga K "InvalidArcs")) (.ref (ga K "InvalidPoint")) = some false
  em_InvalidArcs_InvalidArc : PySem.W.exmOne K (.ref (ga K "InvalidArcs")) (.ref (ga K "InvalidArc")) = some false
  em_InvalidArcs_InvalidArcs : PySem.W.exmOne K (.ref (ga K "InvalidArcs")) (.ref (ga K "InvalidArcs")) = some true
  p_Arc_start : PropOf K (ga K "Arc") "start" (ma K (ga K "Arc") "start") (gtA "Arc" "start" K)
  p_Arc_end : PropOf K (ga K "Arc") "end" (ma K (ga K "Arc") "end") (gtA "Arc" "end" K)
  o_Arc : OwnC K (ga K "Arc")
  q_Arc : OwnK K (ga K "Arc")
  f_Arc : ∀ T ∈ all7, PySem.W.notFirst K (ga K "Arc") (.type T) = true
  x_Arc_ne : NoNe K (ga K "Arc")
  t_law : CodeV K ((glA "law") K) = .ref (codeA K ((glA "law") K))
def tf : List (Frag → Addr) := [glA "law"]
/-- the tables -/
abbrev Tb (K : Frag) (mg : Str → Option Value) (base : Heap) : Prop := Tbs base mg (tf.map (cTA K))

def sp_is_integer (K : Frag) : Sp := fun vs H Q _ => ∃ x k, vs = [x] ∧ Is K H x k ∧ Q (.bl (k.isT "int" && !k.isT "bool")) H
theorem sc_is_integer : FnScope ["value"] ["value"] (defScope s_is_integer) := ⟨rfl, rfl, rfl, by decide +kernel, rfl, by decide +kernel, by decide +kernel⟩
theorem ok_is_integer {P : Program} {w : World} {K : Frag} {mg : Str → Option Value} {base : Heap} (T : Txt K mg) : FnB P w K mg base 1 (glA "is_integer" K) (sp_is_integer K) := by
  refine okD (N := ["value"]) (ps := ["value"]) (k := 0) (d := g_is_integer) T.d_is_integer rfl sc_is_integer (fun vs H Q E h => ?_) (fun _ _ _ _ _ _ us hl => match us, hl with | [_], _ => rfl) (fun A outer s H vs Q E hr h => ?_)
  · obtain ⟨x, k, rfl, hx, q⟩ := h
    rfl
  · have hu := hr.hu
    obtain ⟨x, k, rfl, hx, q⟩ := h
    refine ⟨_, PSs.nox ((pss_one (ps_ret (pe_and (pe_callB call_isi (by rfl) T.b_isinstance (by decide +kernel) (pa_cons (pv 0) (pa_cons (pe_bltn (v := .ty "int") (u := .type "int") (by rfl) T.b_int (by decide +kernel) rfl) pa_nil))) (pe_one (pe_not (pe_callB call_isi (by rfl) T.b_isinstance (by decide +kernel) (pa_cons (pv 0) (pa_cons (pe_bltn (v := .ty "bool") (u := .type "bool") (by rfl) T.b_bool (by decide +kernel) rfl) pa_nil))))))))), ?_⟩
    walk_at "nm"
    refine isi "int" hx ?_
    walk_at "nm"
    cases e : k.isT "int" with
    | false =>
      rw [e] at q
      exact iteF q
    | true =>
      rw [e] at q
      refine iteT ?_
      exact isi "bool" hx ⟨_, rfl, q⟩

def sp_in_range (K : Frag) : Sp := fun vs H Q _ => ∃ x k a b, vs = [x, .int a, .int b] ∧ Is K H x k ∧ Q (.bl (k.within a b)) H
theorem sc_in_range : FnScope ["value", "least", "most"] ["value", "least", "most"] (defScope s_in_range) := ⟨rfl, rfl, rfl, by decide +kernel, rfl, by decide +kernel, by decide +kernel⟩
theorem ok_in_range {P : Program} {w : World} {K : Frag} {mg : Str → Option Value} {base : Heap} (T : Txt K mg) : FnB P w K mg base 2 (glA "in_range" K) (sp_in_range K) := by
  refine okD (N := ["value", "least", "most"]) (ps := ["value", "least", "most"]) (k := 1) (d := g_in_range) T.d_in_range rfl sc_in_range (fun vs H Q E h => ?_) (fun _ _ _ _ _ _ us hl => match us, hl with | [_, _, _], _ => rfl) (fun A outer s H vs Q E hr h => ?_)
  · obtain ⟨x, k, a, b, rfl, hx, q⟩ := h
    rfl
  · have hu := hr.hu
    obtain ⟨x, k, a, b, rfl, hx, q⟩ := h
    refine ⟨_, PSs.nox ((pss_one (ps_ret (pe_and (pe_cF (ok_is_integer (K := K) T) hr T.m_is_integer passL (pa_cons (pv 0) pa_nil)) (pe_one (pe_chain op_le op_le (pv 1) (pv 0) (pv 2))))))), ?_⟩
    walk_at "st"
    refine ⟨x, k, rfl, hx, ?_⟩
    walk_at "st"
    cases hx with
    | int i =>
      refine iteT ?_
      walk_at "st"
      by_cases h : a ≤ i
      · rw [decide_eq_true h]
        refine iteT ?_
        walk_at "st"
        have e : (Kn.int i).within a b = decide (i ≤ b) := by simp [Kn.within, h]
        rw [e] at q
        exact q
      · rw [decide_eq_false h]
        have e : (Kn.int i).within a b = false := by simp [Kn.within, h]
        rw [e] at q
        exact iteF q
    | _ => exact iteF q

def sp_is_key (K : Frag) : Sp := fun vs H Q _ => ∃ x k, vs = [x] ∧ Is K H x k ∧ k.small ∧ ∀ H', Same H H' → Q (.bl k.isKey) H'
theorem sc_is_key : FnScope ["value", "sign"] ["value"] (defScope s_is_key) := ⟨rfl, rfl, rfl, by decide +kernel, rfl, by decide +kernel, by decide +kernel⟩
theorem ok_is_key {P : Program} {w : World} {K : Frag} {mg : Str → Option Value} {base : Heap} (T : Txt K mg) : FnB P w K mg base 1 (glA "is_key" K) (sp_is_key K) := by
  refine okD (N := ["value", "sign"]) (ps := ["value"]) (k := 0) (d := g_is_key) T.d_is_key rfl sc_is_key (fun vs H Q E h => ?_) (fun _ _ _ _ _ _ us hl => match us, hl with | [_], _ => rfl) (fun A outer s H vs Q E hr h => ?_)
  · obtain ⟨x, k, rfl, hx, hs, q⟩ := h
    rfl
  · have hu := hr.hu
    obtain ⟨x, k, rfl, hx, hs, q⟩ := h
    refine ⟨_, PSs.nox ((pss_cons (ps_if (PW.pt (pw_or (pt_not (pt_val (pe_callB call_isi (by rfl) T.b_isinstance (by decide +kernel) (pa_cons (pv 0) (pa_cons (pe_bltn (v := .ty "str") (u := .type "str") (by rfl) T.b_str (by decide +kernel) rfl) pa_nil))))) (pw_or1 (pt_not (pt_chain op_le op_le pe_int (pe_callB call_len_str (by rfl) T.b_len (by decide +kernel) (pa_cons (pv 0) pa_nil)) (pe_gc (by rfl) (gint T.v_MAX_LENGTH)))))))
        (pss_one (ps_ret pe_bl))
        pss_nil)
      (pss_one (ps_ret (pe_callB (cr_all rfl) (by rfl) T.b_all (by decide +kernel) (pa_cons (pe_lc (own := [("sign", 1)]) (g := gName 1) rfl sc_is_key.nd (pi_str (pv 0)) (blkOk_by (N := ["value", "sign"]) (sc := defScope s_is_key) (by decide +kernel)) (fun _ _ _ _ _ => pg_name (i := 1) sc_is_key.nd rfl (Or.inl rfl)) (fun _ _ _ _ _ => pts_nil) (fun _ _ _ _ _ => (pe_cmpR op_in_sign (pv 1) (pe_gc (by rfl) (gstr T.v_CHARACTERS)) (by rfl)))) pa_nil)))))), ?_⟩
    walk_at "nm"
    refine isi "str" hx ?_
    walk_at "nm"
    cases hx with
    | str z =>
      rw [if_neg (by simp [Kn.isT])]
      have hz : z.length ≤ 1000000 := hs
      refine ⟨z, rfl, (by rw [sizeLine_eq]; omega), ?_⟩
      have q' : ∀ b, b = isKeyL z.cps.toList → ∀ H', Same H H' → Q (.bl b) H' := fun b e H' s => by rw [e]; exact q H' s
      have hl := str_len z
      by_cases h1 : (1 : Int) ≤ (z.length : Int)
      · rw [if_pos h1]
        by_cases h2 : (z.length : Int) ≤ 20
        · rw [if_neg (by omega)]
          refine ⟨_, rfl, _, rfl, fun D hD => ?_⟩
          refine lc_pure walk_str (f := fun i => .bl (keySign (z.cps.toList.getD i 0))) (it := fun i => .str ⟨#[z.cps.toList.getD i 0]⟩) (by rw [cps_len]; omega) hD (fun _ _ => trivial) (fun i H x H' _ y => yStr i H x H' y) (by intro i; rfl) ?_ ?_
          · intro i hi H' Q' s k
            refine ⟨_, rfl, _, rfl, _, rfl, ?_⟩
            have e := chars_mem (z.cps.toList.getD i 0)
            unfold chars at e
            rw [e]
            exact k H' (Same.refl _)
          · intro H' s hl'
            rw [cps_len, map_getD_range z.cps.toList 0 (fun c => V.bl (keySign c))] at hl'
            refine ⟨D, z.cps.toList.map keySign, rfl, SqL.of (by rw [hl', List.map_map]; rfl), ?_⟩
            refine q' _ ?_ H' s
            unfold isKeyL
            rw [decide_eq_true (by omega), decide_eq_true (by omega), List.all_map]
            rfl
        · rw [if_pos (by omega)]
          refine q' _ ?_ H (Same.refl _)
          unfold isKeyL
          rw [decide_eq_false (p := z.cps.toList.length ≤ 20) (by omega)]
          simp
      · rw [if_neg h1]
        refine q' _ ?_ H (Same.refl _)
        unfold isKeyL
        rw [decide_eq_false (p := 1 ≤ z.cps.toList.length) (by omega)]
        simp
    | _ =>
      rw [if_pos (by simp [Kn.isT])]
      exact q H (Same.refl _)

def sp__law_hand (K : Frag) : Sp := fun vs H Q _ => ∃ (c : Addr) (ns : List Int) (k : Int), vs = [.ref c, .int k] ∧ SqL K H c (ns.map V.int) ∧ ns.length ≤ 1000 ∧ (0 ≤ k ∧ k ≤ 1000) ∧
  ∀ H' p, Same H H' → H p = none → PoolAt H' p → Q (.ref p) H'
theorem sc__law_hand : FnScope ["_law_script", "_law_k", "_law_cell", "_law_seed"] ["_law_script", "_law_k"] (defScope s__law_hand) := ⟨rfl, rfl, rfl, by decide +kernel, rfl, by decide +kernel, by decide +kernel⟩
theorem ok__law_hand {P : Program} {w : World} {K : Frag} {mg : Str → Option Value} {base : Heap} (T : Txt K mg) : FnB P w K mg base 1 (glA "_law_hand" K) (sp__law_hand K) := by
  refine okD (N := ["_law_script", "_law_k", "_law_cell", "_law_seed"]) (ps := ["_law_script", "_law_k"]) (k := 0) (d := g__law_hand) T.d__law_hand rfl sc__law_hand (fun vs H Q E h => ?_) (fun _ _ _ _ _ _ us hl => match us, hl with | [_, _], _ => rfl) (fun A outer s H vs Q E hr h => ?_)
  · obtain ⟨c, ns, k, rfl, hc, hl, hk, q⟩ := h
    rfl
  · have hu := hr.hu
    obtain ⟨c, ns, k, rfl, hc, hl, hk, q⟩ := h
    refine ⟨_, PSs.nox ((pss_cons (ps_set (i := 2) sc__law_hand.nd rfl (Or.inl rfl) (pe_ix ix_list (pe_op op_cat (pe_slice sl_list (pv 0) (po_some (pv 1)) (po_some (pe_op op_add (pv 1) pe_int))) (pe_lst (pa_cons pe_int pa_nil))) pe_int (fun _ _ => rfl)))
      (pss_cons (ps_set (i := 3) sc__law_hand.nd rfl (Or.inl rfl) (pe_op op_mod (pe_op op_mul (pe_op op_add (pe_op op_add (pe_op op_mod (pv 2) pe_int) (pe_op op_mul pe_int (pv 1))) pe_int) pe_int) pe_int))
      (pss_one (ps_ret (pe_lst (pa_cons (pe_op op_mul (pe_callTy call_int1 (by rfl) T.b_int (by decide +kernel) (pa_cons (pe_cmpR op_ge (pv 2) (pe_op op_pow pe_int pe_int) (nomark _)) pa_nil)) (pv 2)) (pa_cons (pv 3) pa_nil)))))))), ?_⟩
    walk_at "nm"
    refine ⟨c, _, rfl, hc, fun p1 hp1 => ?_⟩
    obtain ⟨l', el, hl'⟩ := cutV_int ns (some k) (some (k + 1))
    rw [el]
    refine ⟨(by rw [sizeLine_eq]; decide), fun p2 hp2 => ?_⟩
    refine ⟨p1, p2, _, _, rfl, rfl, upd_keep upd_same hp2, upd_same, (by rw [List.length_map, sizeLine_eq]; simp; omega), fun p3 hp3 => ?_⟩
    obtain ⟨v, ev⟩ := head_int l'
    refine ixL (SqL.of upd_same) ev ?_
    refine ⟨v, rfl, by decide, .inl ⟨by decide, by decide⟩, .inr ⟨by decide, by decide⟩, by decide, ⟨by decide, by decide, by decide⟩, v, rfl, .inr ⟨v, rfl, .inl ⟨?_, ?_⟩, ?_⟩⟩
    · split <;> decide
    · split <;> decide
    · refine ⟨(by rw [sizeLine_eq]; decide), fun p hp => ?_⟩
      have s1 : Same H (upd H p1 (.lst (l'.map V.int))) := Same.upd (Same.refl _) hp1
      have s2 := Same.upd (o := .lst [V.int 0]) s1 hp2
      have s3 := Same.upd (o := .lst (l'.map V.int ++ [V.int 0])) s2 hp3
      exact q _ p (Same.upd s3 hp) (s3.free hp) ⟨_, _, upd_same⟩

def sp__law_draw (K : Frag) : Sp := fun vs H Q _ => ∃ (a : Addr) (m : Int), vs = [.ref a, .int m] ∧ PoolAt H a ∧ 0 < m ∧ m < 1073741824 ∧
  ∀ v H', 0 ≤ v → v < m → PoolAt H' a → Ex a H H' → Q (.int v) H'
theorem sc__law_draw : FnScope ["_law_pool", "_law_size", "_law_found"] ["_law_pool", "_law_size"] (defScope s__law_draw) := ⟨rfl, rfl, rfl, by decide +kernel, rfl, by decide +kernel, by decide +kernel⟩
theorem ok__law_draw {P : Program} {w : World} {K : Frag} {mg : Str → Option Value} {base : Heap} (T : Txt K mg) : FnB P w K mg base 1 (glA "_law_draw" K) (sp__law_draw K) := by
  refine okD (N := ["_law_pool", "_law_size", "_law_found"]) (ps := ["_law_pool", "_law_size"]) (k := 0) (d := g__law_draw) T.d__law_draw rfl sc__law_draw (fun vs H Q E h => ?_) (fun _ _ _ _ _ _ us hl => match us, hl with | [_, _], _ => rfl) (fun A outer s H vs Q E hr h => ?_)
  · obtain ⟨a, m, rfl, ⟨p, r, ha⟩, m0, m1, q⟩ := h
    rfl
  · have hu := hr.hu
    obtain ⟨a, m, rfl, ⟨p, r, ha⟩, m0, m1, q⟩ := h
    refine ⟨_, PSs.nox ((pss_cons (ps_if (pt_cmpR op_gt (pe_ix ix_list (pv 0) pe_int (fun _ _ => rfl)) pe_int (nomark _))
        (pss_cons (ps_set (i := 2) sc__law_draw.nd rfl (Or.inl rfl) (pe_op op_mod (pe_ix ix_list (pv 0) pe_int (fun _ _ => rfl)) (pv 1)))
        (pss_cons (ps_asg (pe_op op_fdiv (pe_ix ix_list (pv 0) pe_int (fun _ _ => rfl)) (pv 1)) (pg_sub (pv 0) pe_int set_list))
        (pss_one (ps_ret (pv 2)))))
        pss_nil)
      (pss_cons (ps_asg (pe_op op_mod (pe_op op_add (pe_op op_mul (pe_ix ix_list (pv 0) pe_int (fun _ _ => rfl)) pe_int) pe_int) pe_int) (pg_sub (pv 0) pe_int set_list))
      (pss_one (ps_ret (pe_op op_mod (pe_op op_fdiv (pe_op op_mod (pe_op op_mul (pe_ix ix_list (pv 0) pe_int (fun _ _ => rfl)) (pe_ix ix_list (pv 0) pe_int (fun _ _ => rfl))) pe_int) pe_int) (pv 1))))))), ?_⟩
    walk_at "nm"
    refine ixL (SqL.of ha) rfl ⟨_, rfl, ?_⟩
    by_cases hp : 0 < p
    · rw [if_pos hp]
      refine ixL (SqL.of ha) rfl ⟨_, rfl, m0, ?_⟩
      refine ixL (SqL.of ha) rfl ⟨_, rfl, ⟨m0, m1⟩, ?_⟩
      refine setL ha rfl ?_
      exact q _ _ (Int.emod_nonneg _ (Int.ne_of_gt m0)) (Int.emod_lt_of_pos _ m0) ⟨_, _, upd_same⟩ Ex.refl.upd
    · rw [if_neg hp]
      refine ixL (SqL.of ha) rfl ⟨_, rfl, .inr ⟨by decide, by decide⟩, by decide, ?_⟩
      refine setL ha rfl ?_
      have e1 := Int.emod_nonneg (r * 48271 + 11) (show (2147483647 : Int) ≠ 0 by decide)
      have e2 := Int.emod_lt_of_pos (r * 48271 + 11) (show (0 : Int) < 2147483647 by decide)
      refine ixL (i := 1) (v := .int ((r * 48271 + 11) % 2147483647)) (SqL.of upd_same) rfl ?_
      refine ixL (i := 1) (v := .int ((r * 48271 + 11) % 2147483647)) (SqL.of upd_same) rfl ⟨_, rfl, _, rfl, .inl ⟨by omega, by omega⟩, by decide, ⟨by decide, by decide⟩, m0, ?_⟩
      exact q _ _ (Int.emod_nonneg _ (Int.ne_of_gt m0)) (Int.emod_lt_of_pos _ m0) ⟨_, _, upd_same⟩ Ex.refl.upd

theorem sc_InvalidPoint_init : FnScope ["self", "value"] ["self", "value"] (defScope s_InvalidPoint_init) := ⟨rfl, rfl, rfl, by decide +kernel, rfl, by decide +kernel, by decide +kernel⟩
theorem ok_InvalidPoint_init {P : Program} {w : World} {K : Frag} {mg : Str → Option Value} {base : Heap} (T : Txt K mg) : FnU P w K mg base 1 (mtA "InvalidPoint" "__init__" K) (spX1 (ga K "InvalidPoint") "value") := by
  refine okU (N := ["self", "value"]) (ps := ["self", "value"]) (k := 0) (d := g_InvalidPoint_init) T.d_InvalidPoint_init rfl sc_InvalidPoint_init (fun vs H Q E h => ?_) (fun _ _ _ _ _ _ us hl => match us, hl with | [_, _], _ => rfl) (fun cdv A outer s H vs Q E hr h => ?_)
  · obtain ⟨a, v0, rfl, hx, q⟩ := h
    rfl
  · obtain ⟨a, v0, rfl, hx, q⟩ := h
    refine ⟨_, PSs.nox (pss_one (ps_ost (pv 0) (pv 1))), ?_⟩
    refine ⟨_, rfl, _, rfl, a, _, rfl, T.r_InvalidPoint.o, T.xn_InvalidPoint_value, .inl ⟨hx, fun dx hd ne => ?_⟩⟩
    exact q dx hd ne

theorem sc_InvalidArc_init : FnScope ["self", "first", "second"] ["self", "first", "second"] (defScope s_InvalidArc_init) := ⟨rfl, rfl, rfl, by decide +kernel, rfl, by decide +kernel, by decide +kernel⟩
theorem ok_InvalidArc_init {P : Program} {w : World} {K : Frag} {mg : Str → Option Value} {base : Heap} (T : Txt K mg) : FnU P w K mg base 1 (mtA "InvalidArc" "__init__" K) (spX2 (ga K "InvalidArc") "first" "second") := by
  refine okU (N := ["self", "first", "second"]) (ps := ["self", "first", "second"]) (k := 0) (d := g_InvalidArc_init) T.d_InvalidArc_init rfl sc_InvalidArc_init (fun vs H Q E h => ?_) (fun _ _ _ _ _ _ us hl => match us, hl with | [_, _, _], _ => rfl) (fun cdv A outer s H vs Q E hr h => ?_)
  · obtain ⟨a, v0, v1, rfl, hx, q⟩ := h
    rfl
  · obtain ⟨a, v0, v1, rfl, hx, q⟩ := h
    refine ⟨_, PSs.nox (pss_cons (ps_ost (pv 0) (pv 1)) (pss_one (ps_ost (pv 0) (pv 2)))), ?_⟩
    refine ⟨_, rfl, _, rfl, a, _, rfl, T.r_InvalidArc.o, T.xn_InvalidArc_first, .inl ⟨hx, fun dx hd ne => ?_⟩⟩
    refine ⟨_, rfl, _, rfl, a, _, rfl, T.r_InvalidArc.o, T.xn_InvalidArc_second, .inr ⟨dx, _, upd_same, by rw [upd_ne ne, upd_same], by simp, ?_⟩⟩
    exact q dx hd ne

theorem sc_InvalidArcs_init : FnScope ["self", "position"] ["self", "position"] (defScope s_InvalidArcs_init) := ⟨rfl, rfl, rfl, by decide +kernel, rfl, by decide +kernel, by decide +kernel⟩
theorem ok_InvalidArcs_init {P : Program} {w : World} {K : Frag} {mg : Str → Option Value} {base : Heap} (T : Txt K mg) : FnU P w K mg base 1 (mtA "InvalidArcs" "__init__" K) (spX1 (ga K "InvalidArcs") "position") := by
  refine okU (N := ["self", "position"]) (ps := ["self", "position"]) (k := 0) (d := g_InvalidArcs_init) T.d_InvalidArcs_init rfl sc_InvalidArcs_init (fun vs H Q E h => ?_) (fun _ _ _ _ _ _ us hl => match us, hl with | [_, _], _ => rfl) (fun cdv A outer s H vs Q E hr h => ?_)
  · obtain ⟨a, v0, rfl, hx, q⟩ := h
    rfl
  · obtain ⟨a, v0, rfl, hx, q⟩ := h
    refine ⟨_, PSs.nox (pss_one (ps_ost (pv 0) (pv 1))), ?_⟩
    refine ⟨_, rfl, _, rfl, a, _, rfl, T.r_InvalidArcs.o, T.xn_InvalidArcs_position, .inl ⟨hx, fun dx hd ne => ?_⟩⟩
    exact q dx hd ne

def sp_is_point (K : Frag) : Sp := fun vs H Q _ => ∃ x b, vs = [x] ∧ PtV K H x b ∧ ∀ H', Same H H' → Q (.bl b) H'
theorem sc_is_point : FnScope ["value", "text"] ["value"] (defScope s_is_point) := ⟨rfl, rfl, rfl, by decide +kernel, rfl, by decide +kernel, by decide +kernel⟩
theorem ok_is_point {P : Program} {w : World} {K : Frag} {mg : Str → Option Value} {base : Heap} (T : Txt K mg) : FnB P w K mg base 3 (glA "is_point" K) (sp_is_point K) := by
  refine okD (N := ["value", "text"]) (ps := ["value"]) (k := 2) (d := g_is_point) T.d_is_point rfl sc_is_point (fun vs H Q E h => ?_) (fun _ _ _ _ _ _ us hl => match us, hl with | [_], _ => rfl) (fun A outer s H vs Q E hr h => ?_)
  · obtain ⟨x, b, rfl, hx, q⟩ := h
    rfl
  · have hu := hr.hu
    obtain ⟨x, b, rfl, hx, q⟩ := h
    refine ⟨_, PSs.nox ((pss_cons (ps_if (PW.pt (pw_or (pt_not (pt_val (pe_callB call_isi (by rfl) T.b_isinstance (by decide +kernel) (pa_cons (pv 0) (pa_cons (pe_bltn (v := .ty "tuple") (u := .type "tuple") (by rfl) T.b_tuple (by decide +kernel) rfl) pa_nil))))) (pw_or (pt_cmpR op_ne (pe_callB call_len_seq (by rfl) T.b_len (by decide +kernel) (pa_cons (pv 0) pa_nil)) pe_int (nomark _)) (pw_or1 (pt_not (pt_val (pe_cF (ok_in_range (K := K) T) hr T.m_in_range passL (pa_cons (pe_ix ix_tup (pv 0) pe_int (fun _ _ => rfl)) (pa_cons pe_int (pa_cons (pe_gc (by rfl) (gint T.v_MAX_NUMBER)) pa_nil))))))))))
        (pss_one (ps_ret pe_bl))
        pss_nil)
      (pss_cons (ps_set (i := 1) sc_is_point.nd rfl (Or.inl rfl) (pe_ix ix_tup (pv 0) pe_int (fun _ _ => rfl)))
      (pss_cons (ps_if (pt_not (pt_val (pe_callB call_isi (by rfl) T.b_isinstance (by decide +kernel) (pa_cons (pv 1) (pa_cons (pe_bltn (v := .ty "str") (u := .type "str") (by rfl) T.b_str (by decide +kernel) rfl) pa_nil)))))
        (pss_one (ps_ret pe_bl))
        pss_nil)
      (pss_cons (ps_if (pt_cmpR op_eq (pv 1) pe_str (nomark _))
        (pss_one (ps_ret pe_bl))
        pss_nil)
      (pss_cons (ps_if (pt_cmpR op_eq (pe_ix ix_tup (pv 0) pe_int (fun _ _ => rfl)) (pe_gc (by rfl) (gint T.v_MAX_NUMBER)) (nomark _))
        (pss_one (ps_ret pe_bl))
        pss_nil)
      (pss_one (ps_ret (pe_ifExp (pt_cmpR op_eq (pe_ix ix_str (pv 1) (pe_un un_neg pe_int) (fun _ _ => rfl)) (pe_gc (by rfl) (gstr T.v_BEHIND)) (nomark _)) (pe_cF (ok_is_key (K := K) T) hr T.m_is_key passL (pa_cons (pe_slice C8.sl_txt (pv 1) po_none (po_some (pe_un un_neg pe_int))) pa_nil)) (pe_cF (ok_is_key (K := K) T) hr T.m_is_key passL (pa_cons (pv 1) pa_nil))))))))))), ?_⟩
    walk_at "nm"
    cases hx with
    | no h hk =>
      refine isi "tuple" h ⟨_, rfl, ?_⟩
      rw [hk, if_pos rfl]
      exact q H (Same.refl _)
    | @len a l e hl hm =>
      refine isi "tuple" (.tup e) ⟨_, rfl, ?_⟩
      rw [if_neg (show ¬ (Kn.tup a l).isT "tuple" = false from fun z => by cases z)]
      refine ⟨_, rfl, _, .inr (SqT.of e), rfl, _, rfl, ?_⟩
      rw [if_pos (by simp; omega)]
      exact q H (Same.refl _)
    | @two a u t ku kt e hu' ht hs =>
      refine isi "tuple" (.tup e) ⟨_, rfl, ?_⟩
      rw [if_neg (show ¬ (Kn.tup a [u, t]).isT "tuple" = false from fun z => by cases z)]
      refine ⟨_, rfl, _, .inr (SqT.of e), rfl, _, rfl, ?_⟩
      rw [if_neg (by simp)]
      refine ixT (SqT.of e) rfl ⟨_, ku, _, _, rfl, hu', _, rfl, ?_⟩
      have q' : ∀ b, b = ptK ku kt → ∀ H', Same H H' → Q (.bl b) H' := fun b e H' s => by rw [e]; exact q H' s
      cases hw : ku.within 0 4294967296 with
      | false =>
        rw [if_pos rfl]
        refine q' _ ?_ H (Same.refl _)
        unfold ptK
        rw [hw]
        rfl
      | true =>
        rw [if_neg (by simp)]
        cases hu' with
        | int i =>
          refine ixT (SqT.of e) rfl ?_
          refine isi "str" ht ⟨_, rfl, ?_⟩
          cases ht with
          | str z =>
            rw [if_neg (show ¬ (Kn.str z).isT "str" = false from fun z => by cases z)]
            have hz : z.length ≤ 1000000 := hs
            have hzl := str_len z
            refine ⟨rfl, _, rfl, ?_⟩
            by_cases h0 : z = Str.ofString ""
            · rw [if_pos (by simp [h0])]
              refine q' _ ?_ H (Same.refl _)
              unfold ptK
              rw [hw, h0]
              rfl
            · rw [if_neg (by simpa using h0)]
              have hne : z.cps.toList ≠ [] := fun e => h0 (PySem.W.str_of_cps e)
              have he : z.cps.toList.isEmpty = false := by simpa using hne
              refine ixT (SqT.of e) rfl ⟨rfl, _, rfl, ?_⟩
              by_cases hi : i = 4294967296
              · rw [if_pos (by simp [hi])]
                refine q' _ ?_ H (Same.refl _)
                rw [ptK_is, hw, he, hi]
                rfl
              · rw [if_neg (by simpa using hi)]
                have hp : ptK (.int i) (.str z) = textOk z.cps.toList := by
                  rw [ptK_is, hw, he]
                  simp [hi]
                rw [hp] at q'
                obtain ⟨l, c, hlc⟩ : ∃ l c, z.cps.toList = l ++ [c] := ⟨_, _, (List.dropLast_concat_getLast hne).symm⟩
                have hS : z = SX.S (l ++ [c]) := by rw [← hlc, SX.S_tl]
                refine ⟨_, rfl, _, _, c, rfl, rfl, (by rw [sizeLine_eq]; omega), ?_, ?_⟩
                · rw [hlc]
                  exact atI_last l c
                · refine ⟨rfl, _, rfl, ?_⟩
                  by_cases hc : c = 33
                  · subst hc
                    rw [if_pos (by decide +kernel)]
                    refine ⟨_, rfl, _, rfl, z, rfl, (by rw [sizeLine_eq]; omega), ?_⟩
                    have hsl : Txt.slice z none (some (-1)) = SX.S l := by rw [hS]; exact SX.butlast_snoc l 33
                    have hll : z.cps.toList.length = l.length + 1 := by rw [hlc]; simp
                    rw [hsl]
                    refine ⟨_, .str _, rfl, .str _, ?_, fun H' s => q' _ ?_ H' s⟩
                    · show (SX.S l).length ≤ 1000000
                      rw [SX.S_len]
                      omega
                    · show isKeyL (SX.S l).cps.toList = _
                      rw [hlc, textOk_snoc, if_pos rfl, ]
                  · rw [if_neg (by rw [show Str.ofString "!" = ⟨#[33]⟩ by decide +kernel]; simpa using hc)]
                    refine ⟨_, .str z, rfl, .str z, hs, fun H' s => q' _ ?_ H' s⟩
                    show isKeyL z.cps.toList = _
                    rw [hlc, textOk_snoc, if_neg hc]
          | _ =>
            rw [if_pos (by rfl)]
            refine q' _ ?_ H (Same.refl _)
            unfold ptK
            rw [hw]
            rfl
        | _ => cases hw

def sp_check_point (K : Frag) : Sp := fun vs H Q E => ∃ x b, vs = [x] ∧ PtV K H x b ∧ (b = true → ∀ H', Same H H' → Q .non H') ∧ (b = false → Out1 K E H "InvalidPoint" "value" x)
theorem sc_check_point : FnScope ["value"] ["value"] (defScope s_check_point) := ⟨rfl, rfl, rfl, by decide +kernel, rfl, by decide +kernel, by decide +kernel⟩
theorem ok_check_point {P : Program} {w : World} {K : Frag} {mg : Str → Option Value} {base : Heap} (T : Txt K mg) : FnB P w K mg base 4 (glA "check_point" K) (sp_check_point K) := by
  refine okD (N := ["value"]) (ps := ["value"]) (k := 3) (d := g_check_point) T.d_check_point rfl sc_check_point (fun vs H Q E h => ?_) (fun _ _ _ _ _ _ us hl => match us, hl with | [_], _ => rfl) (fun A outer s H vs Q E hr h => ?_)
  · obtain ⟨x, b, rfl, hx, q, qe⟩ := h
    rfl
  · have hu := hr.hu
    obtain ⟨x, b, rfl, hx, q, qe⟩ := h
    refine ⟨_, (pss_one (ps_if (pt_not (pt_val (pe_cF (ok_is_point (K := K) T) hr T.m_is_point passL (pa_cons (pv 0) pa_nil))))
        (pss_one (ps_raiseC rfl (takes_of rfl rfl rfl rfl) T.r_InvalidPoint (ok_InvalidPoint_init (K := K) T) hr (pa_cons (pv 0) pa_nil)))
        pss_nil)), ?_⟩
    walk_at "nm"
    refine ⟨_, b, rfl, hx, fun H1 s1 => ?_⟩
    walk_at "nm"
    cases b with
    | true =>
      rw [if_neg (by decide)]
      exact q rfl H1 s1
    | false =>
      rw [if_pos rfl]
      exact ((qe rfl).same s1).mk fun Q' q' => ⟨_, rfl, q'⟩

def sp_Arc_init (K : Frag) : Sp := fun vs H Q E => ∃ (x dx : Addr) (u v : V), vs = [.ref x, u, v] ∧ H x = some (.ins (ga K "Arc") dx []) ∧
  ((PtV K H u false ∧ Out1 K E H "InvalidPoint" "value" u) ∨ (PtV K H u true ∧ PtV K H v false ∧ Out1 K E H "InvalidPoint" "value" v) ∨
   (∃ (a b : Addr) (p q : Pt), u = .ref a ∧ v = .ref b ∧ PtV K H u true ∧ PtV K H v true ∧ PtAt H a p ∧ PtAt H b q ∧
     ((ptLt p q = false ∧ Out2 K E H "InvalidArc" "first" "second" u v) ∨ (ptLt p q = true ∧ ∀ H', (∃ dx, H' x = some (.ins (ga K "Arc") dx [("own_start", u), ("own_end", v)])) → Ex x H H' → Q .non H'))))
theorem sc_Arc_init : FnScope ["self", "start", "end"] ["self", "start", "end"] (defScope s_Arc_init) := ⟨rfl, rfl, rfl, by decide +kernel, rfl, by decide +kernel, by decide +kernel⟩
theorem ok_Arc_init {P : Program} {w : World} {K : Frag} {mg : Str → Option Value} {base : Heap} (T : Txt K mg) : FnB P w K mg base 5 (mtA "Arc" "__init__" K) (sp_Arc_init K) := by
  refine okD (N := ["self", "start", "end"]) (ps := ["self", "start", "end"]) (k := 4) (d := g_Arc_init) T.d_Arc_init rfl sc_Arc_init (fun vs H Q E h => ?_) (fun _ _ _ _ _ _ us hl => match us, hl with | [_, _, _], _ => rfl) (fun A outer s H vs Q E hr h => ?_)
  · obtain ⟨x, dx, u, v, rfl, hx, q⟩ := h
    rfl
  · have hu := hr.hu
    obtain ⟨x, dx, u, v, rfl, hx, q⟩ := h
    refine ⟨_, (pss_cons (ps_expr (pe_cF (ok_check_point (K := K) T) hr T.m_check_point (passes_call (takes_of rfl rfl rfl rfl) (fun _ _ _ _ h => h)) (pa_cons (pv 1) pa_nil)))
      (pss_cons (ps_expr (pe_cF (ok_check_point (K := K) T) hr T.m_check_point (passes_call (takes_of rfl rfl rfl rfl) (fun _ _ _ _ h => h)) (pa_cons (pv 2) pa_nil)))
      (pss_cons (ps_if (pt_not (pt_cmpR (op_ltP (hu64 hr)) (pv 1) (pv 2) (nomark _)))
        (pss_one (ps_raiseC rfl (takes_of rfl rfl rfl rfl) T.r_InvalidArc (ok_InvalidArc_init (K := K) T) hr (pa_cons (pv 1) (pa_cons (pv 2) pa_nil))))
        pss_nil)
      (pss_cons (ps_fld (pv 0) (pv 1) rfl)
      (pss_one (ps_fld (pv 0) (pv 2) rfl)))))), ?_⟩
    walk_at "nm"
    rcases q with ⟨h1, o⟩ | ⟨h1, h2, o⟩ | ⟨a, b, p, r, rfl, rfl, h1, h2, hp, hr', q⟩
    · exact ⟨_, _, rfl, h1, (fun z => by cases z), fun _ => o⟩
    · refine ⟨_, _, rfl, h1, (fun _ H1 s1 => ?_), (fun z => by cases z)⟩
      exact ⟨_, _, rfl, h2.same s1, (fun z => by cases z), fun _ => o.same s1⟩
    · refine ⟨_, _, rfl, h1, (fun _ H1 s1 => ?_), (fun z => by cases z)⟩
      walk_at "nm"
      refine ⟨_, _, rfl, h2.same s1, (fun _ H2 s2 => ?_), (fun z => by cases z)⟩
      walk_at "nm"
      have s3 := s1.trans s2
      refine ⟨a, b, p, r, rfl, rfl, hp.same s3, hr'.same s3, _, rfl, ?_⟩
      rcases q with ⟨hl, o⟩ | ⟨hl, q⟩
      · rw [hl, if_pos rfl]
        exact (o.same s3).mk fun Q' q' => ⟨_, rfl, _, rfl, q'⟩
      · rw [hl, if_neg (by decide)]
        refine ⟨_, rfl, _, rfl, x, _, dx, [], rfl, s3 _ _ hx, T.c_Arc, T.n_Arc_own_start, (by decide), ?_⟩
        refine ⟨_, rfl, _, rfl, x, _, dx, _, rfl, upd_same, T.c_Arc, T.n_Arc_own_end, (by rw [putF0]; simp), ?_⟩
        refine q _ ⟨dx, ?_⟩ ((Ex.of_same s3).trans Ex.refl.upd.upd)
        rw [upd_same]
        walk_at "pf"

/-- one of the values is no point, the ones before it are -/
def OddAt (K : Frag) (H : Hp) (us : List V) (j : Nat) (v : V) : Prop := us[j]? = some v ∧ PtV K H v false ∧ ∀ i < j, ∃ u, us[i]? = some u ∧ PtV K H u true
theorem OddAt.same {K : Frag} {H H' : Hp} {us : List V} {j : Nat} {v : V} (h : OddAt K H us j v) (s : Same H H') : OddAt K H' us j v := ⟨h.1, h.2.1.same s, fun i hi => let ⟨u, e, p⟩ := h.2.2 i hi; ⟨u, e, p.same s⟩⟩
def sp_split_at (K : Frag) : Sp := fun vs H Q E => ∃ (x l : Addr) (us : List V) (j : Nat) (v : V), vs = [.ref x, .ref l] ∧ H l = some (.lst us) ∧ OddAt K H us j v ∧ Out1 K E H "InvalidPoint" "value" v
theorem sc_split_at : FnScope ["arc", "points", "point", "inside", "marks", "at"] ["arc", "points"] (defScope s_split_at) := ⟨rfl, rfl, rfl, by decide +kernel, rfl, by decide +kernel, by decide +kernel⟩
theorem ok_split_at {P : Program} {w : World} {K : Frag} {mg : Str → Option Value} {base : Heap} (T : Txt K mg) : FnB P w K mg base 5 (glA "split_at" K) (sp_split_at K) := by
  refine okD (N := ["arc", "points", "point", "inside", "marks", "at"]) (ps := ["arc", "points"]) (k := 4) (d := g_split_at) T.d_split_at rfl sc_split_at (fun vs H Q E h => ?_) (fun _ _ _ _ _ _ us hl => match us, hl with | [_, _], _ => rfl) (fun A outer s H vs Q E hr h => ?_)
  · obtain ⟨x, l, us, j, v, rfl, hl, hj, o⟩ := h
    rfl
  · have hu := hr.hu
    obtain ⟨x, l, us, j, v, rfl, hl, hj, o⟩ := h
    refine ⟨_, (pss_cons (ps_for (passes_of rfl) rfl (pi_list (pv 1)) (pg_name (i := 2) sc_split_at.nd rfl (Or.inl rfl))
        (pss_one (ps_expr (pe_cF (ok_check_point (K := K) T) hr T.m_check_point (passes_call (takes_of rfl rfl rfl rfl) (fun _ _ _ _ h => h)) (pa_cons (pv 2) pa_nil)))))
      (pss_cons ps_never
      (pss_cons ps_never
      (pss_one ps_never)))), ?_⟩
    walk_at "nm"
    refine ⟨_, rfl, l, rfl, ⟨_, SqL.of hl⟩, for_list (K := K) (a := l) (xs := us) (fun i σ' H' => i ≤ j ∧ (∃ w, σ' = [some (.ref x), some (.ref l), w, none, none, none]) ∧ Same H H') ⟨Nat.zero_le _, ⟨_, rfl⟩, Same.refl _⟩ (fun i σ' H' _ p => SqL.of (p.2.2 _ _ hl)) ?_ ?_⟩
    · rintro i y σ' H1 hi ⟨hij, ⟨w, rfl⟩, s1⟩
      obtain ⟨hjv, hbad, hgood⟩ := hj
      walk_at "nm"
      by_cases e : i = j
      · subst e
        rw [hjv] at hi
        cases hi
        exact ⟨_, _, rfl, hbad.same s1, (fun z => by cases z), fun _ => o.same s1⟩
      · obtain ⟨u, hu', pu⟩ := hgood i (by omega)
        rw [hu'] at hi
        cases hi
        exact ⟨_, _, rfl, pu.same s1, (fun _ H2 s2 => ⟨by omega, ⟨_, rfl⟩, s1.trans s2⟩), fun z => by cases z⟩
    · rintro σ' H1 ⟨hij, _⟩
      have := (List.getElem?_eq_some_iff.mp hj.1).1
      omega

def sp_Arc_split (K : Frag) : Sp := fun vs H Q E => ∃ (x t : Addr) (us : List V) (j : Nat) (v : V), vs = [.ref x, .ref t] ∧ H t = some (.tup us) ∧ us.length ≤ 1000 ∧ OddAt K H us j v ∧ Out1 K E H "InvalidPoint" "value" v
theorem sc_Arc_split : FnScope ["self", "points"] ["self", "points"] (defScope s_Arc_split) := ⟨rfl, rfl, rfl, by decide +kernel, rfl, by decide +kernel, by decide +kernel⟩
theorem bd_Arc_split (kV doc pm : Value) (an : Option Addr) (cdv ct : Value) (us rs : List Value) (hl : us.length = 1) : bindArgs (PySem.W.fnOf g_Arc_split.name g_Arc_split.qual g_Arc_split.params g_Arc_split.body g_Arc_split.scope .none kV doc pm an cdv ct) ⟨us ++ rs, []⟩ = (newTuple rs >>= fun t => pure (((["self"] : List Str) ++ (["points"] : List Str)).zip (us ++ [t]))) := by
  match us, hl with
  | [_], _ =>
    cases rs <;> rfl
theorem ok_Arc_split {P : Program} {w : World} {K : Frag} {mg : Str → Option Value} {base : Heap} (T : Txt K mg) : FnV P w K mg base 6 (mtA "Arc" "split" K) 1 (sp_Arc_split K) := by
  refine okV (N := ["self", "points"]) (ps := ["self"]) (x := "points") (k := 5) (d := g_Arc_split) T.d_Arc_split rfl sc_Arc_split (fun vs H Q E h => ?_) (fun kV doc pm an cdv ct us rs hl => bd_Arc_split kV doc pm an cdv ct us rs hl) (fun A outer s H vs Q E hr h => ?_)
  · obtain ⟨x, t, us, j, v, rfl, ht, hl, hj, o⟩ := h
    rfl
  · have hu := hr.hu
    obtain ⟨x, t, us, j, v, rfl, ht, hl, hj, o⟩ := h
    refine ⟨_, (pss_one (ps_ret (pe_cF (ok_split_at (K := K) T) hr T.m_split_at (passes_call (takes_of rfl rfl rfl rfl) (fun _ _ _ _ h => h)) (pa_cons (pv 0) (pa_cons (pe_callTy call_list_of (by rfl) T.b_list (by decide +kernel) (pa_cons (pv 1) pa_nil)) pa_nil))))), ?_⟩
    walk_at "nm"
    exact ⟨us, .inr (SqT.of ht), fun l hl' => ⟨x, l, us, j, v, rfl, upd_same, hj.same (Same.upd (Same.refl _) hl'), o.same (Same.upd (Same.refl _) hl')⟩⟩

def sp_check_arc (K : Frag) : Sp := fun vs H Q E => ∃ (x : V) (k : Kn), vs = [x] ∧ Is K H x k ∧ (∀ a D, k = .ins a D → D = ga K "Arc") ∧ (k.isC (ga K "Arc") = true → Q .non H) ∧ (k.isC (ga K "Arc") = false → Out2 K E H "InvalidArc" "first" "second" .non .non)
theorem sc_check_arc : FnScope ["value"] ["value"] (defScope s_check_arc) := ⟨rfl, rfl, rfl, by decide +kernel, rfl, by decide +kernel, by decide +kernel⟩
theorem ok_check_arc {P : Program} {w : World} {K : Frag} {mg : Str → Option Value} {base : Heap} (T : Txt K mg) : FnB P w K mg base 3 (glA "check_arc" K) (sp_check_arc K) := by
  refine okD (N := ["value"]) (ps := ["value"]) (k := 2) (d := g_check_arc) T.d_check_arc rfl sc_check_arc (fun vs H Q E h => ?_) (fun _ _ _ _ _ _ us hl => match us, hl with | [_], _ => rfl) (fun A outer s H vs Q E hr h => ?_)
  · obtain ⟨x, k, rfl, hx, hk, q, o⟩ := h
    rfl
  · have hu := hr.hu
    obtain ⟨x, k, rfl, hx, hk, q, o⟩ := h
    refine ⟨_, (pss_one (ps_if (pt_not (pt_val (pe_callB call_isi (by rfl) T.b_isinstance (by decide +kernel) (pa_cons (pv 0) (pa_cons (pe_gc (v := .ref (ga K "Arc")) (by rfl) ⟨_, T.m_Arc, rfl⟩) pa_nil)))))
        (pss_one (ps_raiseC rfl (takes_of rfl rfl rfl rfl) T.r_InvalidArc (ok_InvalidArc_init (K := K) T) hr (pa_cons pe_non (pa_cons pe_non pa_nil))))
        pss_nil)), ?_⟩
    walk_at "nm"
    refine isiC hx T.q_Arc (fun a D e hn => absurd (hk a D e) hn) ?_
    walk_at "nm"
    cases e : k.isC (ga K "Arc") with
    | true =>
      rw [if_neg (by decide)]
      exact q e
    | false =>
      rw [if_pos rfl]
      exact (o e).mk fun Q' q' => q'

/-- what check_arcs is told: no list, or a list with a first thing that is no arc -/
def sp_check_arcs (K : Frag) : Sp := fun vs H _ E => ∃ (x : V) (k : Kn), vs = [x] ∧ Is K H x k ∧
  ((k.isT "list" = false ∧ Out1 K E H "InvalidArcs" "position" .non) ∨
   (∃ (l : Addr) (us : List V) (j : Nat) (v : V) (kv : Kn), k = .lst l us ∧ us[j]? = some v ∧ Is K H v kv ∧ (∀ a D, kv = .ins a D → D = ga K "Arc") ∧ kv.isC (ga K "Arc") = false ∧ (∀ i < j, ∃ a dx fs, us[i]? = some (.ref a) ∧ H a = some (.ins (ga K "Arc") dx fs)) ∧ Out1 K E H "InvalidArcs" "position" (.int j)))
theorem sc_check_arcs : FnScope ["value", "position", "arc"] ["value"] (defScope s_check_arcs) := ⟨rfl, rfl, rfl, by decide +kernel, rfl, by decide +kernel, by decide +kernel⟩
theorem ok_check_arcs {P : Program} {w : World} {K : Frag} {mg : Str → Option Value} {base : Heap} (T : Txt K mg) : FnB P w K mg base 3 (glA "check_arcs" K) (sp_check_arcs K) := by
  refine okD (N := ["value", "position", "arc"]) (ps := ["value"]) (k := 2) (d := g_check_arcs) T.d_check_arcs rfl sc_check_arcs (fun vs H Q E h => ?_) (fun _ _ _ _ _ _ us hl => match us, hl with | [_], _ => rfl) (fun A outer s H vs Q E hr h => ?_)
  · obtain ⟨x, k, rfl, hx, q⟩ := h
    rfl
  · have hu := hr.hu
    obtain ⟨x, k, rfl, hx, q⟩ := h
    refine ⟨_, (pss_cons (ps_if (pt_not (pt_val (pe_callB call_isi (by rfl) T.b_isinstance (by decide +kernel) (pa_cons (pv 0) (pa_cons (pe_bltn (v := .ty "list") (u := .type "list") (by rfl) T.b_list (by decide +kernel) rfl) pa_nil)))))
        (pss_one (ps_raiseC rfl (takes_of rfl rfl rfl rfl) T.r_InvalidArcs (ok_InvalidArcs_init (K := K) T) hr (pa_cons pe_non pa_nil)))
        pss_nil)
      (pss_one (ps_for (passes_of rfl) rfl (pi_enum (by rfl) T.b_enumerate (pa_cons (pv 0) pa_nil)) (pg_tup (n := 2) (by rfl) (pgs_cons (pg_name (i := 1) sc_check_arcs.nd rfl (Or.inl rfl)) (pgs_cons (pg_name (i := 2) sc_check_arcs.nd rfl (Or.inl rfl)) pgs_nil)))
        (pss_one (ps_if (pt_not (pt_val (pe_callB call_isi (by rfl) T.b_isinstance (by decide +kernel) (pa_cons (pv 2) (pa_cons (pe_gc (v := .ref (ga K "Arc")) (by rfl) ⟨_, T.m_Arc, rfl⟩) pa_nil)))))
          (pss_one (ps_raiseC rfl (takes_of rfl rfl rfl rfl) T.r_InvalidArcs (ok_InvalidArcs_init (K := K) T) hr (pa_cons (pv 1) pa_nil)))
          pss_nil))))), ?_⟩
    walk_at "nm"
    rcases q with ⟨hk, o⟩ | ⟨l, us, j, v, kv, rfl, hv, hkv, h1, h2, h3, o⟩
    · refine isi "list" hx ⟨_, rfl, ?_⟩
      rw [hk, if_pos rfl]
      exact o.mk fun Q' q' => q'
    · cases hx with
      | lst e =>
        refine isi "list" (.lst e) ⟨_, rfl, ?_⟩
        rw [if_neg (show ¬ (Kn.lst l us).isT "list" = false from fun z => by cases z)]
        refine ⟨_, rfl, l, us, rfl, SqL.of e, for_it walk_enum (fun i σ' H' => i ≤ j ∧ (∃ w w', σ' = [some (.ref l), w, w']) ∧ Same H H') ⟨Nat.zero_le _, ⟨_, _, rfl⟩, Same.refl _⟩ (fun i σ' H' _ p => SqL.of (p.2.2 _ _ e)) ?_ ?_⟩
        · rintro i y σ' H1 H2 hi ⟨hij, ⟨w, w', rfl⟩, s1⟩ ⟨tt, y1, y2, rfl, ht, rfl, e1, e2⟩
          cases e1
          have s2 := Same.upd (o := .tup [.int (i : Nat), y2]) s1 ht
          refine ⟨tt, _, rfl, SqT.of upd_same, rfl, _, _, rfl, _, _, rfl, rfl, ?_⟩
          generalize upd H1 tt (.tup [.int (i : Nat), y2]) = H2 at s2 ⊢
          walk_at "nm"
          replace e2 : us[i]? = some y2 := e2
          by_cases ee : i = j
          · subst ee
            rw [hv] at e2
            cases e2
            refine isiC (hkv.same s2) T.q_Arc (fun a D e hn => absurd (h1 a D e) hn) ⟨_, rfl, ?_⟩
            rw [h2, if_pos rfl]
            exact (o.same s2).mk fun Q' q' => ⟨_, rfl, q'⟩
          · obtain ⟨a, dx, fs, ea, ha⟩ := h3 i (by omega)
            rw [ea] at e2
            cases e2
            refine isiC (.ins (s2 _ _ ha) T.o_Arc) T.q_Arc (fun a D e hn => absurd (by cases e; rfl) hn) ⟨_, rfl, ?_⟩
            rw [if_neg (by simp [Kn.isC])]
            exact ⟨by omega, ⟨_, rfl⟩, s2⟩
        · rintro σ' H1 ⟨hij, _⟩
          have := (List.getElem?_eq_some_iff.mp hv).1
          omega

def sp_tiling_fault (K : Frag) : Sp := fun vs H Q E => ∃ (x y : V), vs = [x, y] ∧
  ((∃ k, Is K H x k ∧ (∀ a D, k = .ins a D → D = ga K "Arc") ∧ k.isC (ga K "Arc") = false ∧ Out2 K E H "InvalidArc" "first" "second" .non .non) ∨
   (∃ a dx fs, x = .ref a ∧ H a = some (.ins (ga K "Arc") dx fs) ∧ sp_check_arcs K [y] H (fun _ _ => False) E))
theorem sc_tiling_fault : FnScope ["arc", "arcs", "marks", "point", "number", "one"] ["arc", "arcs"] (defScope s_tiling_fault) := ⟨rfl, rfl, rfl, by decide +kernel, rfl, by decide +kernel, by decide +kernel⟩
theorem ok_tiling_fault {P : Program} {w : World} {K : Frag} {mg : Str → Option Value} {base : Heap} (T : Txt K mg) : FnB P w K mg base 4 (glA "tiling_fault" K) (sp_tiling_fault K) := by
  refine okD (N := ["arc", "arcs", "marks", "point", "number", "one"]) (ps := ["arc", "arcs"]) (k := 3) (d := g_tiling_fault) T.d_tiling_fault rfl sc_tiling_fault (fun vs H Q E h => ?_) (fun _ _ _ _ _ _ us hl => match us, hl with | [_, _], _ => rfl) (fun A outer s H vs Q E hr h => ?_)
  · obtain ⟨x, y, rfl, q⟩ := h
    rfl
  · have hu := hr.hu
    obtain ⟨x, y, rfl, q⟩ := h
    refine ⟨_, (pss_cons (ps_expr (pe_cF (ok_check_arc (K := K) T) hr T.m_check_arc (passes_call (takes_of rfl rfl rfl rfl) (fun _ _ _ _ h => h)) (pa_cons (pv 0) pa_nil)))
      (pss_cons (ps_expr (pe_cF (ok_check_arcs (K := K) T) hr T.m_check_arcs (passes_call (takes_of rfl rfl rfl rfl) (fun _ _ _ _ h => h)) (pa_cons (pv 1) pa_nil)))
      (pss_cons ps_never
      (pss_cons ps_never
      (pss_one ps_never))))), ?_⟩
    walk_at "nm"
    rcases q with ⟨k, hk, h1, h2, o⟩ | ⟨a, dx, fs, rfl, ha, q⟩
    · exact ⟨_, k, rfl, hk, h1, (fun z => by rw [h2] at z; cases z), fun _ => o⟩
    · refine ⟨_, _, rfl, .ins ha T.o_Arc, (fun b D e => by cases e; rfl), (fun _ => ?_), (fun z => absurd z (by simp [Kn.isC]))⟩
      exact q

/-- what _law_refused makes of an error -/
def xRef (K : Frag) (Q : VK) : XK := fun cls d H' =>
  (∃ (dd : Addr) (v : V) (dat : PyData), cls = .ref (ga K "InvalidPoint") ∧ d = some dd ∧ H' dd = some (.xd [("value", v)]) ∧ Dp K H' v dat ∧ dat.showable = true ∧ dat.hasDict = false ∧ dat.depth ≤ 64 ∧ dat.shown.length ≤ sizeLine ∧ ∀ r, H' r = none → Q (.ref r) (upd H' r (.lst [.str "point", .bl true, .str dat.shown]))) ∨
  (∃ (dd : Addr) (v w : V), cls = .ref (ga K "InvalidArc") ∧ d = some dd ∧ H' dd = some (.xd [("second", w), ("first", v)]) ∧ ∀ r, H' r = none → Q (.ref r) (upd H' r (.lst [.str "arc", .bl true, v, w]))) ∨
  (∃ (dd : Addr) (v : V), cls = .ref (ga K "InvalidArcs") ∧ d = some dd ∧ H' dd = some (.xd [("position", v)]) ∧ ∀ r, H' r = none → Q (.ref r) (upd H' r (.lst [.str "arcs", .bl true, v])))
def TT__law_refused (K : Frag) : (XK → Hp → VK → Prop) → Hp → VK → Prop := fun tl H Q => ∀ (E : XK) (Q' : VK), (∀ cls d H', xRef K Q cls d H' → E cls d H') → (∀ v H', Q (.str "told") H' → Q' v H') → tl E H Q'
theorem sc__law_refused : FnScope ["_law_call", "e"] ["_law_call"] (defScope s__law_refused) := ⟨rfl, rfl, rfl, by decide +kernel, rfl, by decide +kernel, by decide +kernel⟩
theorem gives__law_refused {X : Cx} {k : Nat} {q : Str} (T : Txt X.K X.mg) : GivesG X g__law_refused ["_law_call", "e"] k "_law_call" q (TT__law_refused X.K) := by
  rcases X with ⟨Pr, W0, K, MG, BS, A0, N0, S0, H0, env0, out0, stk0, ex0, fn0, calm0, pn0, xe0⟩
  replace T : Txt K MG := T
  intro cdg f c' s H Q tl hr call hco h
  refine ⟨_, (pss_cons (ps_tryA rfl rfl sc__law_refused.nd takes_none (fun W pn xe tk _ => pss_one (ps_expr (call W pn xe (fun cls d H' => ∀ σ', W cls d σ' H') _ _ tk (fun _ _ σ' _ h => h σ'))))
      (HdA.cons (k := ⟨.ref (ga K "InvalidPoint"), 1, _⟩) ⟨rfl, rfl, .inl T.m_InvalidPoint⟩ rfl rfl (fun a oe cls d pn hz hf => (pss_one (ps_ret (pe_lst (pa_cons pe_str (pa_cons (pe_callB (call_isX hz hf) (by rfl) T.b_isinstance (by decide +kernel) (pa_cons (pv 1) (pa_cons (pe_bltn (v := .ty "ValueError") (u := .type "ValueError") (by rfl) T.b_ValueError (by decide +kernel) rfl) pa_nil))) (pa_cons (pe_callB (call_reprX hz (by have z := hr.g; exact z) (by have z := hu99 hr; exact z)) (by rfl) T.b_repr (by decide +kernel) (pa_cons (pe_xf T.xf_InvalidPoint T.xn_InvalidPoint_value hz hf (pv 1)) pa_nil)) pa_nil)))))))
      (HdA.cons (k := ⟨.ref (ga K "InvalidArc"), 1, _⟩) ⟨rfl, rfl, .inl T.m_InvalidArc⟩ rfl rfl (fun a oe cls d pn hz hf => (pss_one (ps_ret (pe_lst (pa_cons pe_str (pa_cons (pe_callB (call_isX hz hf) (by rfl) T.b_isinstance (by decide +kernel) (pa_cons (pv 1) (pa_cons (pe_bltn (v := .ty "ValueError") (u := .type "ValueError") (by rfl) T.b_ValueError (by decide +kernel) rfl) pa_nil))) (pa_cons (pe_xf T.xf_InvalidArc T.xn_InvalidArc_first hz hf (pv 1)) (pa_cons (pe_xf T.xf_InvalidArc T.xn_InvalidArc_second hz hf (pv 1)) pa_nil))))))))
      (HdA.cons (k := ⟨.ref (ga K "InvalidArcs"), 1, _⟩) ⟨rfl, rfl, .inl T.m_InvalidArcs⟩ rfl rfl (fun a oe cls d pn hz hf => (pss_one (ps_ret (pe_lst (pa_cons pe_str (pa_cons (pe_callB (call_isX hz hf) (by rfl) T.b_isinstance (by decide +kernel) (pa_cons (pv 1) (pa_cons (pe_bltn (v := .ty "ValueError") (u := .type "ValueError") (by rfl) T.b_ValueError (by decide +kernel) rfl) pa_nil))) (pa_cons (pe_xf T.xf_InvalidArcs T.xn_InvalidArcs_position hz hf (pv 1)) pa_nil)))))))
      HdA.nil))))
      (pss_one (ps_ret pe_str))), ?_⟩
  walk_at "nm"
  refine ⟨hco, h _ _ (fun cls d H' hx σ' hl => ?_) fun v H' q => q⟩
  obtain ⟨s0, s1', rfl⟩ : ∃ s0 s1', σ' = [s0, s1'] := match σ', hl with
    | [s0, s1'], _ => ⟨s0, s1', rfl⟩
  rcases hx with ⟨dd, v, dat, rfl, rfl, hd, hv, a1, a2, a3, a4, q⟩ | ⟨dd, v, w, rfl, rfl, hd, q⟩ | ⟨dd, v, rfl, rfl, hd, q⟩
  · refine ⟨true, T.em_InvalidPoint_InvalidPoint, fun _ a ha => ?_, fun z => by cases z⟩
    refine ⟨_, rfl, _, dd, _, _, _, _, rfl, rfl, hd, T.xc_InvalidPoint, rfl, .ty "ValueError", T.xk_InvalidPoint, ?_⟩
    refine ⟨_, rfl, rfl, rfl, dd, _, _, rfl, hd, look0, ?_⟩
    exact ⟨_, dat, rfl, hv, a1, a2, a3, a4, by rw [sizeLine_eq]; decide, fun r hr => q r hr⟩
  · refine ⟨false, T.em_InvalidArc_InvalidPoint, (fun z => by cases z), fun _ => ⟨true, T.em_InvalidArc_InvalidArc, fun _ a ha => ?_, fun z => by cases z⟩⟩
    refine ⟨_, rfl, _, dd, _, _, _, _, rfl, rfl, hd, T.xc_InvalidArc, rfl, .ty "ValueError", T.xk_InvalidArc, ?_⟩
    refine ⟨_, rfl, rfl, rfl, dd, _, _, rfl, hd, (by walk_at "lk"), ?_⟩
    refine ⟨_, rfl, rfl, rfl, dd, _, _, rfl, hd, (by walk_at "lk"), ?_⟩
    exact ⟨by rw [sizeLine_eq]; decide, fun r hr => q r hr⟩
  · refine ⟨false, T.em_InvalidArcs_InvalidPoint, (fun z => by cases z), fun _ => ⟨false, T.em_InvalidArcs_InvalidArc, (fun z => by cases z), fun _ => ⟨true, T.em_InvalidArcs_InvalidArcs, fun _ a ha => ?_, fun z => by cases z⟩⟩⟩
    refine ⟨_, rfl, _, dd, _, _, _, _, rfl, rfl, hd, T.xc_InvalidArcs, rfl, .ty "ValueError", T.xk_InvalidArcs, ?_⟩
    refine ⟨_, rfl, rfl, rfl, dd, _, _, rfl, hd, look0, ?_⟩
    exact ⟨by rw [sizeLine_eq]; decide, fun r hr => q r hr⟩

theorem joinL_one : ∀ l : List Nat, TL.joinL [] (l.map fun c => [c]) = l
  | [] => rfl
  | [c] => rfl
  | c :: d :: r => by
    have ih := joinL_one (d :: r)
    show [c] ++ ([] ++ TL.joinL [] ((d :: r).map fun c => [c])) = _
    rw [ih]
    rfl
/-- the signs of a list of texts of one sign each, joined -/
theorem join_one (l : List Nat) : (Txt.join (Str.ofString "") (l.map fun c => (⟨#[c]⟩ : Str))).cps.toList = l := by
  have e : l.map (fun c => (⟨#[c]⟩ : Str)) = (l.map fun c => [c]).map SX.S := by
    rw [List.map_map]
    rfl
  have e0 : Str.ofString "" = SX.S [] := rfl
  rw [e, e0, SX.join_S, joinL_one]

def sgL : List Nat := [97, 98, 122, 48, 57, 109]
theorem sg_eq : (Str.ofString "abz09m").cps.toList = sgL := by decide +kernel
theorem sg_len : (Str.ofString "abz09m").length ≤ sizeLine := by decide +kernel
theorem sg_at : ∀ v, v < 6 → ∃ c, sgL[v]? = some c ∧ keySign c = true := by
  intro v hv
  have h : ∀ v, v < 6 → keySign (sgL.getD v 0) = true := by decide +kernel
  refine ⟨sgL.getD v 0, ?_, h v hv⟩
  have : v < sgL.length := hv
  rw [List.getD_eq_getElem?_getD, List.getElem?_eq_getElem this]
  rfl
theorem sg_atI {v : Int} (h0 : 0 ≤ v) (h1 : v < 6) : ∃ c, atI (Str.ofString "abz09m").cps.toList v = some c ∧ keySign c = true := by
  obtain ⟨c, h, k⟩ := sg_at v.toNat (by omega)
  refine ⟨c, ?_, k⟩
  rw [sg_eq, show v = ((v.toNat : Nat) : Int) by omega]
  exact atI_nat h

def sp__law_key (K : Frag) : Sp := fun vs H Q _ => ∃ (a : Addr) (m : Int), vs = [.ref a, .int m] ∧ PoolAt H a ∧ 1 ≤ m ∧ m ≤ 20 ∧ ∀ (z : Str) H', isKeyL z.cps.toList = true → (z.length : Int) ≤ m → PoolAt H' a → Ex a H H' → Q (.str z) H'
theorem sc__law_key : FnScope ["_law_pool", "_law_most", "_law_turn"] ["_law_pool", "_law_most"] (defScope s__law_key) := ⟨rfl, rfl, rfl, by decide +kernel, rfl, by decide +kernel, by decide +kernel⟩
theorem ok__law_key {P : Program} {w : World} {K : Frag} {mg : Str → Option Value} {base : Heap} (T : Txt K mg) : FnB P w K mg base 2 (glA "_law_key" K) (sp__law_key K) := by
  refine okD (N := ["_law_pool", "_law_most", "_law_turn"]) (ps := ["_law_pool", "_law_most"]) (k := 1) (d := g__law_key) T.d__law_key rfl sc__law_key (fun vs H Q E h => ?_) (fun _ _ _ _ _ _ us hl => match us, hl with | [_, _], _ => rfl) (fun A outer s H vs Q E hr h => ?_)
  · obtain ⟨a, m, rfl, hp, m0, m1, q⟩ := h
    rfl
  · have hu := hr.hu
    obtain ⟨a, m, rfl, hp, m0, m1, q⟩ := h
    refine ⟨_, PSs.nox ((pss_one (ps_ret (pe_join pe_str (pe_lc (own := [("_law_turn", 2)]) (g := gName 2) rfl sc__law_key.nd (pi_range1 (by rfl) T.b_range (pa_cons (pe_op op_add pe_int (pe_cF (ok__law_draw (K := K) T) hr T.m__law_draw passL (pa_cons (pv 0) (pa_cons (pv 1) pa_nil)))) pa_nil)) (blkOk_by (N := ["_law_pool", "_law_most", "_law_turn"]) (sc := defScope s__law_key) (by decide +kernel)) (fun _ _ _ _ _ => pg_name (i := 2) sc__law_key.nd rfl (Or.inl rfl)) (fun _ _ _ _ _ => pts_nil) (fun _ _ _ _ _ => (pe_ix ix_str pe_str (pe_cF (ok__law_draw (K := K) T) hr T.m__law_draw passL (pa_cons (pv 0) (pa_cons pe_int pa_nil))) (fun _ _ => rfl)))))))), ?_⟩
    walk_at "nm"
    refine ⟨⟨_, rfl⟩, ?_⟩
    refine ⟨_, rfl, _, rfl, a, m, rfl, hp, by omega, by omega, fun v H1 v0 v1 hp1 x1 => ?_⟩
    refine ⟨_, _, rfl, rfl, 1 + v, rfl, by omega, by omega, fun D hD => ?_⟩
    have hDa : D ≠ a := by
      obtain ⟨p, r, e⟩ := hp1
      exact (ne_of_none e hD).symm
    refine lc_it walk_range (fun i H2 => ∃ l : List Nat, H2 D = some (.lst (l.map fun c => V.str ⟨#[c]⟩)) ∧ l.length = i ∧ l.all keySign = true ∧ PoolAt H2 a ∧ Ex a H H2) ?_ (fun _ _ _ _ => trivial) ?_ ?_
    · obtain ⟨p, r, e⟩ := hp1
      exact ⟨[], upd_same, rfl, rfl, ⟨p, r, upd_keep e hD⟩, x1.new hD⟩
    · rintro i x H2 H3 hi ⟨l, hl, el, ok, hp2, x2⟩ ⟨rfl, rfl⟩
      refine ⟨rfl, ?_⟩
      dsimp only [tYes]
      rw [if_pos rfl]
      refine ⟨_, rfl, a, 6, rfl, hp2, by decide, by decide, fun w H4 w0 w1 hp4 x4 => ?_⟩
      obtain ⟨c, hc, kc⟩ := sg_atI w0 w1
      refine ⟨_, w, c, rfl, rfl, sg_len, hc, _, x4 _ _ hDa hl, ?_, l ++ [c], ?_, ?_, ?_, ?_, ?_⟩
      · rw [List.length_map, sizeLine_eq]
        omega
      · rw [upd_same, List.map_append]
        rfl
      · rw [List.length_append, el]
        rfl
      · rw [List.all_append, ok]
        simpa using kc
      · obtain ⟨p, r, e⟩ := hp4
        exact ⟨p, r, upd_other hDa.symm e⟩
      · intro b o hb e
        have h1 := x1 b o hb e
        have h4 := x4 b o hb (x2 b o hb e)
        rw [upd_ne (ne_of_none h1 hD)]
        exact h4
    · rintro H2 ⟨l, hl, el, ok, hp2, x2⟩
      refine ⟨_, rfl, D, rfl, l.map fun c => (⟨#[c]⟩ : Str), .inl (SqL.of ?_), ?_, ?_⟩
      · rw [hl, List.map_map]
        rfl
      · have e0 : (Str.ofString "").length = 0 := rfl
        rw [e0, Nat.mul_zero, Nat.add_zero, List.map_map]
        have e1 : (l.map ((fun x : Str => x.length) ∘ fun c => (⟨#[c]⟩ : Str))).sum = l.length := by
          have e2 : ((fun x : Str => x.length) ∘ fun c => (⟨#[c]⟩ : Str)) = fun _ => 1 := rfl
          rw [e2, List.map_const', List.sum_replicate_nat, Nat.mul_one]
        rw [e1]
        omega
      · refine q _ H2 ?_ ?_ hp2 x2
        · rw [join_one]
          unfold isKeyL
          rw [ok, decide_eq_true (by omega), decide_eq_true (by omega)]
          rfl
        · rw [str_len, join_one]
          omega

/-- a point of a law: small -/
structure SmPt (p : Pt) (m : Int) : Prop where
  n0 : 0 ≤ p.1
  n1 : p.1 < m
  pt : isPt p = true
  sm : p.2.length ≤ 30
  ok : PyData.strOk p.2 = true
def sp__law_point (K : Frag) : Sp := fun vs H Q _ => ∃ (a : Addr) (m : Int), vs = [.ref a, .int m] ∧ PoolAt H a ∧ 1 ≤ m ∧ m ≤ 1000 ∧ ∀ (r : Addr) (p : Pt) H', SmPt p m → PtAt H' r p → PoolAt H' a → Ex a H H' → Q (.ref r) H'
theorem sc__law_point : FnScope ["_law_pool", "_law_most", "_law_text"] ["_law_pool", "_law_most"] (defScope s__law_point) := ⟨rfl, rfl, rfl, by decide +kernel, rfl, by decide +kernel, by decide +kernel⟩
theorem ok__law_point {P : Program} {w : World} {K : Frag} {mg : Str → Option Value} {base : Heap} (T : Txt K mg) : FnB P w K mg base 3 (glA "_law_point" K) (sp__law_point K) := by
  refine okD (N := ["_law_pool", "_law_most", "_law_text"]) (ps := ["_law_pool", "_law_most"]) (k := 2) (d := g__law_point) T.d__law_point rfl sc__law_point (fun vs H Q E h => ?_) (fun _ _ _ _ _ _ us hl => match us, hl with | [_, _], _ => rfl) (fun A outer s H vs Q E hr h => ?_)
  · obtain ⟨a, m, rfl, hp, m0, m1, q⟩ := h
    rfl
  · have hu := hr.hu
    obtain ⟨a, m, rfl, hp, m0, m1, q⟩ := h
    refine ⟨_, PSs.nox ((pss_cons (ps_set (i := 2) sc__law_point.nd rfl (Or.inl rfl) (pe_cF (ok__law_key (K := K) T) hr T.m__law_key passL (pa_cons (pv 0) (pa_cons pe_int pa_nil))))
      (pss_one (ps_ret (pe_tup (pa_cons (pe_cF (ok__law_draw (K := K) T) hr T.m__law_draw passL (pa_cons (pv 0) (pa_cons (pv 1) pa_nil))) (pa_cons (pe_ix ix_list (pe_lst (pa_cons pe_str (pa_cons (pv 2) (pa_cons (pe_op op_add_str (pv 2) pe_str) pa_nil)))) (pe_cF (ok__law_draw (K := K) T) hr T.m__law_draw passL (pa_cons (pv 0) (pa_cons pe_int pa_nil))) (fun _ _ => rfl)) pa_nil))))))), ?_⟩
    walk_at "nm"
    refine ⟨a, 2, rfl, hp, by decide, by decide, fun z H1 hz lz hp1 x1 => ?_⟩
    walk_at "nm"
    have lB : (Str.ofString "!").length = 1 := by decide +kernel
    refine ⟨a, m, rfl, hp1, by omega, by omega, fun v H2 v0 v1 hp2 x2 => ⟨by rw [lB, sizeLine_eq]; omega, by rw [sizeLine_eq]; decide, fun p hpn => ?_⟩⟩
    have hpa : p ≠ a := hp2.ne hpn
    have s2 : Same H2 (upd H2 p (.lst [V.str (Str.ofString ""), V.str z, V.str (z ++ Str.ofString "!")])) := Same.upd (Same.refl _) hpn
    refine ⟨a, 3, rfl, hp2.same s2, by decide, by decide, fun w H4 w0 w1 hp4 x4 => ?_⟩
    have hl : H4 p = some (.lst [V.str (Str.ofString ""), V.str z, V.str (z ++ Str.ofString "!")]) := x4 _ _ hpa upd_same
    have key : ∃ z' : Str, atI [V.str (Str.ofString ""), V.str z, V.str (z ++ Str.ofString "!")] w = some (V.str z') ∧ SmPt (v, z') m := by
      have hk := strOk_key hz
      rcases (show w = 0 ∨ w = 1 ∨ w = 2 by omega) with rfl | rfl | rfl
      · exact ⟨_, rfl, v0, v1, isPt_of v0 (by omega) (.inl rfl), (show (Str.ofString "").length ≤ 30 by decide +kernel), (show PyData.strOk (Str.ofString "") = true by decide +kernel)⟩
      · exact ⟨_, rfl, v0, v1, isPt_of v0 (by omega) (.inr (textOk_key hz)), (by show z.length ≤ 30; omega), hk⟩
      · exact ⟨_, rfl, v0, v1, isPt_of v0 (by omega) (.inr (textOk_behind hz)), (by show (z ++ Str.ofString "!").length ≤ 30; rw [Str.length_append, lB]; omega), strOk_behind hk⟩
    obtain ⟨z', ez, hsm⟩ := key
    refine ixL (SqL.of hl) ez ⟨by rw [sizeLine_eq]; decide, fun r hr => ?_⟩
    exact q r (v, z') _ hsm upd_same (hp4.same (Same.upd (Same.refl _) hr)) (((x1.trans x2).trans ((Ex.of_same s2).trans x4)).trans (Ex.of_same (Same.upd (Same.refl _) hr)))

section
open LamX
variable {K : Frag} {T : List (Addr × Str)} {H0 H : Hp} {pl : Addr} {σ : L2.St} {t : XK → TE} {Q : VK}
theorem lamPoint {v : V} {dat : PyData} (b : Bs T H0 pl H) (hb : ∀ H1 E Q', Nx pl H H1 → Out1 K E H1 "InvalidPoint" "value" v → t E σ H1 Q') (hv : ∀ H', Nx pl H H' → Dp K H' v dat) (h1 : dat.showable = true) (h2 : dat.hasDict = false) (h3 : dat.depth ≤ 64) (h4 : dat.shown.length ≤ sizeLine)
    (q : ∀ H' r, Nx pl H H' → Bs T H0 pl H' → H' r = some (.lst [.str "point", .bl true, .str dat.shown]) → r ≠ pl → Q (.ref r) H') : tLam T (TT__law_refused K) t σ H Q := by
  refine ⟨b.tabs, fun H1 e1 t1 E Q' hE hQ => hb H1 E Q' (.ext e1) fun H2 d s2 hd => hE _ _ _ (.inl ⟨d, v, dat, rfl, rfl, hd, hv H2 ((Nx.ext e1).trans (.same s2)), h1, h2, h3, h4, fun r hr => ?_⟩)⟩
  have b2 := (b.lam e1 t1).same s2
  exact q _ r (((Nx.ext e1).trans (.same s2)).new hr) (b2.upd hr) upd_same (b2.ne hr)
theorem lamArc {v w : V} (b : Bs T H0 pl H) (hb : ∀ H1 E Q', Nx pl H H1 → Out2 K E H1 "InvalidArc" "first" "second" v w → t E σ H1 Q')
    (q : ∀ H' r, Nx pl H H' → Bs T H0 pl H' → H' r = some (.lst [.str "arc", .bl true, v, w]) → r ≠ pl → Q (.ref r) H') : tLam T (TT__law_refused K) t σ H Q := by
  refine ⟨b.tabs, fun H1 e1 t1 E Q' hE hQ => hb H1 E Q' (.ext e1) fun H2 d s2 hd => hE _ _ _ (.inr (.inl ⟨d, v, w, rfl, rfl, hd, fun r hr => ?_⟩))⟩
  have b2 := (b.lam e1 t1).same s2
  exact q _ r (((Nx.ext e1).trans (.same s2)).new hr) (b2.upd hr) upd_same (b2.ne hr)
theorem lamArcs {v : V} (b : Bs T H0 pl H) (hb : ∀ H1 E Q', Nx pl H H1 → Out1 K E H1 "InvalidArcs" "position" v → t E σ H1 Q')
    (q : ∀ H' r, Nx pl H H' → Bs T H0 pl H' → H' r = some (.lst [.str "arcs", .bl true, v]) → r ≠ pl → Q (.ref r) H') : tLam T (TT__law_refused K) t σ H Q := by
  refine ⟨b.tabs, fun H1 e1 t1 E Q' hE hQ => hb H1 E Q' (.ext e1) fun H2 d s2 hd => hE _ _ _ (.inr (.inr ⟨d, v, rfl, rfl, hd, fun r hr => ?_⟩))⟩
  have b2 := (b.lam e1 t1).same s2
  exact q _ r (((Nx.ext e1).trans (.same s2)).new hr) (b2.upd hr) upd_same (b2.ne hr)
/-- the odd value -/
structure Od (K : Frag) (pl : Addr) (H : Hp) (v : V) (dat : PyData) : Prop where
  box : ∀ H', Nx pl H H' → PtV K H' v false ∧ Dp K H' v dat
  sh : dat.showable = true
  hd : dat.hasDict = false
  dp : dat.depth ≤ 64
  ln : dat.shown.length ≤ sizeLine
  ok : PyData.strOk dat.shown = true
theorem Od.nx {v : V} {dat : PyData} {H' : Hp} (h : Od K pl H v dat) (x : Nx pl H H') : Od K pl H' v dat := ⟨fun H2 y => h.box H2 (x.trans y), h.sh, h.hd, h.dp, h.ln, h.ok⟩
/-- the points: not the one before the other -/
structure Two (pl : Addr) (H : Hp) (ra rb : Addr) (pa pb : Pt) : Prop where
  a1 : ∀ H', Nx pl H H' → PtAt H' ra pa
  a2 : SmPt pa 9
  b1 : ∀ H', Nx pl H H' → PtAt H' rb pb
  b2 : SmPt pb 9
theorem Two.nx {ra rb : Addr} {pa pb : Pt} {H' : Hp} (h : Two pl H ra rb pa pb) (x : Nx pl H H') : Two pl H' ra rb pa pb := ⟨fun H2 y => h.a1 H2 (x.trans y), h.a2, fun H2 y => h.b1 H2 (x.trans y), h.b2⟩
theorem shapedPts {z : Str} {p q : Pt} (hz : PyData.strOk z = true) (hp : PyData.strOk p.2 = true) (hq : PyData.strOk q.2 = true) : SeqAt.shaped (.list [.str z, .bool true, ptD p, ptD q]) = true := by
  refine Bool.and_eq_true_iff.mpr ⟨?_, decide_eq_true (show max 0 (max 0 (max (max 0 (max 0 0) + 1) (max (max 0 (max 0 0) + 1) 0))) + 1 ≤ 64 by decide)⟩
  show (PyData.strOk z && (true && ((true && (PyData.strOk p.2 && true)) && ((true && (PyData.strOk q.2 && true)) && true)))) = true
  rw [hz, hp, hq]
  rfl
theorem shapedInt {z : Str} {n : Int} (hz : PyData.strOk z = true) : SeqAt.shaped (.list [.str z, .bool true, .int n]) = true := by
  refine Bool.and_eq_true_iff.mpr ⟨?_, decide_eq_true (show max 0 (max 0 (max 0 0)) + 1 ≤ 64 by decide)⟩
  show (PyData.strOk z && (true && (true && true))) = true
  rw [hz]
  rfl
theorem shapedTxt {z y : Str} (hz : PyData.strOk z = true) (hy : PyData.strOk y = true) : SeqAt.shaped (.list [.str z, .bool true, .str y]) = true := by
  refine Bool.and_eq_true_iff.mpr ⟨?_, decide_eq_true (show max 0 (max 0 (max 0 0)) + 1 ≤ 64 by decide)⟩
  show (PyData.strOk z && (true && (PyData.strOk y && true))) = true
  rw [hz, hy]
  rfl
end

def spLaw (K : Frag) : Sp := fun vs H Q _ => ∃ (a : Addr) (ns : List Int), vs = [.ref a] ∧ SqL K H a (ns.map V.int) ∧ ns.length ≤ 63 ∧ (∀ z ∈ ns, Builtin.Int.intBits z ≤ 1048576) ∧ (∀ p ∈ tf.map (cTA K), H p.2 = some (.tbl #[])) ∧ ∀ H', Q (.bl true) H'
abbrev sp_law := spLaw
theorem sc_law : FnScope ["_law_script", "_law_k", "_law_pool", "_law_odd", "_law_due", "_law_line", "_law_thing", "_law_some", "_law_at", "_law_one", "_law_other"] ["_law_script"] (defScope s_law) := ⟨rfl, rfl, rfl, by decide +kernel, rfl, by decide +kernel, by decide +kernel⟩
theorem ok_law {P : Program} {w : World} {K : Frag} {mg : Str → Option Value} (T : Txt K mg) : LawOkT P w K mg (tf.map (cTA K)) 9 (glA "law" K) (sp_law K) := by
  refine okLawT (N := ["_law_script", "_law_k", "_law_pool", "_law_odd", "_law_due", "_law_line", "_law_thing", "_law_some", "_law_at", "_law_one", "_law_other"]) (k := 8) (d := g_law) T.d_law rfl sc_law (fun _ _ _ _ _ _ us hl => match us, hl with | [_], _ => rfl) (fun base tb A outer s H vs Q E hr h => ?_)
  · have hu := hr.hu
    obtain ⟨a, ns, rfl, hS, hlen, hbits, htab, q⟩ := h
    refine ⟨_, PSs.nox ((pss_cons (ps_for PassesOwn.never rfl (pi_range1 (by rfl) T.b_range (pa_cons (pe_callB (call_max2 rfl) (by rfl) T.b_max (by decide +kernel) (pa_cons pe_int (pa_cons (pe_callB (call_min2 rfl) (by rfl) T.b_min (by decide +kernel) (pa_cons (pe_callB call_len_seq (by rfl) T.b_len (by decide +kernel) (pa_cons (pv 0) pa_nil)) (pa_cons pe_int pa_nil))) pa_nil))) pa_nil)) (pg_name (i := 1) sc_law.nd rfl (Or.inl rfl))
        (pss_cons (ps_set (i := 2) sc_law.nd rfl (Or.inl rfl) (pe_cF (ok__law_hand (K := K) T) hr T.m__law_hand passL (pa_cons (pv 0) (pa_cons (pv 1) pa_nil))))
        (pss_cons (ps_asg (pe_tup (pa_cons (pe_cF (ok__law_point (K := K) T) hr T.m__law_point passL (pa_cons (pv 2) (pa_cons pe_int pa_nil))) (pa_cons (pe_cF (ok__law_point (K := K) T) hr T.m__law_point passL (pa_cons (pv 2) (pa_cons pe_int pa_nil))) pa_nil))) (pg_tup (n := 2) (by rfl) (pgs_cons (pg_name (i := 9) sc_law.nd rfl (Or.inr rfl)) (pgs_cons (pg_name (i := 10) sc_law.nd rfl (Or.inr rfl)) pgs_nil))))
        (pss_cons (ps_if (pt_cmpR (op_ltP (hu64 hr)) (pv 9) (pv 10) (nomark _))
          (pss_one (ps_asg (pe_tup (pa_cons (pv 10) (pa_cons (pv 9) pa_nil))) (pg_tup (n := 2) (by rfl) (pgs_cons (pg_name (i := 9) sc_law.nd rfl (Or.inr rfl)) (pgs_cons (pg_name (i := 10) sc_law.nd rfl (Or.inr rfl)) pgs_nil)))))
          pss_nil)
        (pss_cons (ps_if (pt_cmpR (op_neD (hu64 hr)) (pe_lamG (k := 6) T.d__law_refused rfl T.m__law_refused sc__law_refused (fun _ _ _ _ _ _ us hl => match us, hl with | [_], _ => rfl) rfl (Or.inl rfl) (gives__law_refused T) (tb (cTA K (glA "law")) (List.mem_map.mpr ⟨_, List.mem_of_getElem? (i := 0) rfl, rfl⟩)) T.t_law (List.mem_singleton.mpr rfl) (fun p hp _ => by cases List.mem_singleton.mp hp; rfl) hr (LamX.lamS_by (sc := defScope s_law) (by decide +kernel)) (fun A outer s H E f c' hr => (pe_mkF T.k_Arc (ok_Arc_init (K := K) T) hr T.m_Arc (passes_call (takes_of rfl rfl rfl rfl) (fun _ _ _ _ h => h)) (pa_cons (pv 9) (pa_cons (pv 10) pa_nil))))) (pe_lst (pa_cons pe_str (pa_cons pe_bl (pa_cons (pv 9) (pa_cons (pv 10) pa_nil))))) (nomark _))
          (pss_one (ps_ret pe_bl))
          pss_nil)
        (pss_cons (ps_set (i := 3) sc_law.nd rfl (Or.inr rfl) (pe_ix ix_list (pe_lst (pa_cons pe_non (pa_cons pe_int (pa_cons (pe_tup (pa_cons pe_int pa_nil)) (pa_cons (pe_lst (pa_cons pe_int (pa_cons pe_str pa_nil))) (pa_cons (pe_tup (pa_cons pe_bl (pa_cons pe_str pa_nil))) (pa_cons (pe_tup (pa_cons pe_int (pa_cons pe_str pa_nil))) (pa_cons pe_str (pa_cons (pe_tup (pa_cons (pe_op op_pow pe_int pe_int) (pa_cons pe_str pa_nil))) (pa_cons (pe_tup (pa_cons pe_int (pa_cons pe_non pa_nil))) pa_nil)))))))))) (pe_cF (ok__law_draw (K := K) T) hr T.m__law_draw passL (pa_cons (pv 2) (pa_cons pe_int pa_nil))) (fun _ _ => rfl)))
        (pss_cons (ps_set (i := 4) sc_law.nd rfl (Or.inl rfl) (pe_lst (pa_cons pe_str (pa_cons pe_bl (pa_cons (pe_callB (call_reprD hr.g (hu99 hr)) (by rfl) T.b_repr (by decide +kernel) (pa_cons (pv 3) pa_nil)) pa_nil)))))
        (pss_cons (ps_if (pt_cmpR (op_neD (hu64 hr)) (pe_lamG (k := 6) T.d__law_refused rfl T.m__law_refused sc__law_refused (fun _ _ _ _ _ _ us hl => match us, hl with | [_], _ => rfl) rfl (Or.inl rfl) (gives__law_refused T) (tb (cTA K (glA "law")) (List.mem_map.mpr ⟨_, List.mem_of_getElem? (i := 0) rfl, rfl⟩)) T.t_law (List.mem_singleton.mpr rfl) (fun p hp _ => by cases List.mem_singleton.mp hp; rfl) hr (LamX.lamS_by (sc := defScope s_law) (by decide +kernel)) (fun A outer s H E f c' hr => (pe_mkF T.k_Arc (ok_Arc_init (K := K) T) hr T.m_Arc (passes_call (takes_of rfl rfl rfl rfl) (fun _ _ _ _ h => h)) (pa_cons (pv 3) (pa_cons pe_non pa_nil))))) (pv 4) (nomark _))
          (pss_one (ps_ret pe_bl))
          pss_nil)
        (pss_cons (ps_if (pt_cmpR (op_neD (hu64 hr)) (pe_lamG (k := 6) T.d__law_refused rfl T.m__law_refused sc__law_refused (fun _ _ _ _ _ _ us hl => match us, hl with | [_], _ => rfl) rfl (Or.inl rfl) (gives__law_refused T) (tb (cTA K (glA "law")) (List.mem_map.mpr ⟨_, List.mem_of_getElem? (i := 0) rfl, rfl⟩)) T.t_law (List.mem_singleton.mpr rfl) (fun p hp _ => by cases List.mem_singleton.mp hp; rfl) hr (LamX.lamS_by (sc := defScope s_law) (by decide +kernel)) (fun A outer s H E f c' hr => (pe_mkF T.k_Arc (ok_Arc_init (K := K) T) hr T.m_Arc (passes_call (takes_of rfl rfl rfl rfl) (fun _ _ _ _ h => h)) (pa_cons (pv 9) (pa_cons (pv 3) pa_nil))))) (pv 4) (nomark _))
          (pss_one (ps_ret pe_bl))
          pss_nil)
        (pss_cons (ps_set (i := 5) sc_law.nd rfl (Or.inr rfl) (pe_mkF T.k_Arc (ok_Arc_init (K := K) T) hr T.m_Arc passL (pa_cons (pe_tup (pa_cons pe_int (pa_cons pe_str pa_nil))) (pa_cons (pe_tup (pa_cons pe_int (pa_cons pe_str pa_nil))) pa_nil))))
        (pss_cons (ps_if (pt_cmpR (op_neD (hu64 hr)) (pe_lamG (k := 6) T.d__law_refused rfl T.m__law_refused sc__law_refused (fun _ _ _ _ _ _ us hl => match us, hl with | [_], _ => rfl) rfl (Or.inl rfl) (gives__law_refused T) (tb (cTA K (glA "law")) (List.mem_map.mpr ⟨_, List.mem_of_getElem? (i := 0) rfl, rfl⟩)) T.t_law (List.mem_singleton.mpr rfl) (fun p hp _ => by cases List.mem_singleton.mp hp; rfl) hr (LamX.lamS_by (sc := defScope s_law) (by decide +kernel)) (fun A outer s H E f c' hr => (pe_mtV (pv 5) T.c_Arc T.e_Arc_split (ok_Arc_split (K := K) T) hr (passes_call (takes_of rfl rfl rfl rfl) (fun _ _ _ _ h => h)) (pa_cons (pv 9) (pa_cons (pv 3) (pa_cons pe_non pa_nil)))))) (pv 4) (nomark _))
          (pss_one (ps_ret pe_bl))
          pss_nil)
        (pss_cons (ps_set (i := 6) sc_law.nd rfl (Or.inr rfl) (pe_ix ix_list (pe_lst (pa_cons pe_non (pa_cons pe_int (pa_cons pe_str (pa_cons (pe_tup (pa_cons (pv 9) (pa_cons (pv 10) pa_nil))) (pa_cons (pe_lst (pa_cons (pv 5) pa_nil)) pa_nil)))))) (pe_cF (ok__law_draw (K := K) T) hr T.m__law_draw passL (pa_cons (pv 2) (pa_cons pe_int pa_nil))) (fun _ _ => rfl)))
        (pss_cons (ps_if (pt_cmpR (op_neD (hu64 hr)) (pe_lamG (k := 4) T.d__law_refused rfl T.m__law_refused sc__law_refused (fun _ _ _ _ _ _ us hl => match us, hl with | [_], _ => rfl) rfl (Or.inl rfl) (gives__law_refused T) (tb (cTA K (glA "law")) (List.mem_map.mpr ⟨_, List.mem_of_getElem? (i := 0) rfl, rfl⟩)) T.t_law (List.mem_singleton.mpr rfl) (fun p hp _ => by cases List.mem_singleton.mp hp; rfl) hr (LamX.lamS_by (sc := defScope s_law) (by decide +kernel)) (fun A outer s H E f c' hr => (pe_cF (ok_tiling_fault (K := K) T) hr T.m_tiling_fault (passes_call (takes_of rfl rfl rfl rfl) (fun _ _ _ _ h => h)) (pa_cons (pv 6) (pa_cons pe_non pa_nil))))) (pe_lst (pa_cons pe_str (pa_cons pe_bl (pa_cons pe_non (pa_cons pe_non pa_nil))))) (nomark _))
          (pss_one (ps_ret pe_bl))
          pss_nil)
        (pss_cons (ps_set (i := 7) sc_law.nd rfl (Or.inr rfl) (pe_ix ix_list (pe_lst (pa_cons pe_non (pa_cons (pe_tup (pa_cons (pv 5) pa_nil)) (pa_cons pe_dnewK (pa_cons pe_str (pa_cons (pv 5) pa_nil)))))) (pe_cF (ok__law_draw (K := K) T) hr T.m__law_draw passL (pa_cons (pv 2) (pa_cons pe_int pa_nil))) (fun _ _ => rfl)))
        (pss_cons (ps_if (pt_cmpR (op_neD (hu64 hr)) (pe_lamG (k := 4) T.d__law_refused rfl T.m__law_refused sc__law_refused (fun _ _ _ _ _ _ us hl => match us, hl with | [_], _ => rfl) rfl (Or.inl rfl) (gives__law_refused T) (tb (cTA K (glA "law")) (List.mem_map.mpr ⟨_, List.mem_of_getElem? (i := 0) rfl, rfl⟩)) T.t_law (List.mem_singleton.mpr rfl) (fun p hp _ => by cases List.mem_singleton.mp hp; rfl) hr (LamX.lamS_by (sc := defScope s_law) (by decide +kernel)) (fun A outer s H E f c' hr => (pe_cF (ok_tiling_fault (K := K) T) hr T.m_tiling_fault (passes_call (takes_of rfl rfl rfl rfl) (fun _ _ _ _ h => h)) (pa_cons (pv 5) (pa_cons (pv 7) pa_nil))))) (pe_lst (pa_cons pe_str (pa_cons pe_bl (pa_cons pe_non pa_nil)))) (nomark _))
          (pss_one (ps_ret pe_bl))
          pss_nil)
        (pss_cons (ps_set (i := 8) sc_law.nd rfl (Or.inr rfl) (pe_cF (ok__law_draw (K := K) T) hr T.m__law_draw passL (pa_cons (pv 2) (pa_cons pe_int pa_nil))))
        (pss_one (ps_if (pt_cmpR (op_neD (hu64 hr)) (pe_lamG (k := 4) T.d__law_refused rfl T.m__law_refused sc__law_refused (fun _ _ _ _ _ _ us hl => match us, hl with | [_], _ => rfl) rfl (Or.inl rfl) (gives__law_refused T) (tb (cTA K (glA "law")) (List.mem_map.mpr ⟨_, List.mem_of_getElem? (i := 0) rfl, rfl⟩)) T.t_law (List.mem_singleton.mpr rfl) (fun p hp _ => by cases List.mem_singleton.mp hp; rfl) hr (LamX.lamS_by (sc := defScope s_law) (by decide +kernel)) (fun A outer s H E f c' hr => (pe_cF (ok_tiling_fault (K := K) T) hr T.m_tiling_fault (passes_call (takes_of rfl rfl rfl rfl) (fun _ _ _ _ h => h)) (pa_cons (pv 5) (pa_cons (pe_op op_cat (pe_op op_rep (pe_lst (pa_cons (pv 5) pa_nil)) (pv 8)) (pe_lst (pa_cons (pv 6) (pa_cons pe_non pa_nil)))) pa_nil))))) (pe_lst (pa_cons pe_str (pa_cons pe_bl (pa_cons (pv 8) pa_nil)))) (nomark _))
          (pss_one (ps_ret pe_bl))
          pss_nil))))))))))))))))))
      (pss_one (ps_ret pe_bl)))), ?_⟩
    have t0 : LamX.Tabs [((cTA K (glA "law")).2, (envOfC g_law.qual g_law.scope s.heap.objs.size (g_law.ad K) (CodeV K (g_law.ad K))).qual ++ Str.ofString "<lambda>")] H := fun p hp => by
      cases List.mem_singleton.mp hp
      exact LamX.TabS.nil (htab _ (List.mem_map.mpr ⟨_, List.mem_of_getElem? (i := 0) rfl, rfl⟩))
    generalize hTL : [((cTA K (glA (Str.ofString "law"))).2, (envOfC g_law.qual g_law.scope s.heap.objs.size (g_law.ad K) (CodeV K (g_law.ad K))).qual ++ Str.ofString "<lambda>")] = TL at t0
    refine seq_gen (fun _ _ => True) (fun N hN => ?_) (fun σ' H' _ => q H')
    walk_at "nm"
    refine ⟨_, rfl, a, rfl, _, .inl hS, _, _, rfl, _, _, rfl, _, rfl, ?_, ?_, for_range (fun i σ H' => (∃ v1 v2 v3 v4 v5 v6 v7 v8 v9 v10, σ = [some (.ref a), v1, v2, v3, v4, v5, v6, v7, v8, v9, v10]) ∧ LamX.ExtN H H' ∧ LamX.Tabs TL H') ⟨⟨_, _, _, _, _, _, _, _, _, _, rfl⟩, LamX.ExtN.refl _, t0⟩ ?_ ?_⟩
    · split <;> split <;> omega
    · split <;> split <;> omega
    · rintro i σ H1 hi ⟨⟨v1, v2, v3, v4, v5, v6, v7, v8, v9, v10, rfl⟩, e1, t1⟩
      have hi16 : i < 16 := by
        rw [List.length_map] at hi
        split at hi <;> split at hi <;> omega
      dsimp only [gName]
      simp only [List.set_cons_succ, List.set_cons_zero, hTL]
      -- the pool
      refine seq_gen (fun σ' H' => ∃ pl, σ' = [some (.ref a), some (.int (0 + ↑i)), some (.ref pl), v3, v4, v5, v6, v7, v8, v9, v10] ∧ Bs TL H pl H') (fun N2 hN2 => ?_) ?_
      · walk_at "nm"
        refine ⟨a, ns, _, rfl, seqN hS e1, by omega, ⟨by omega, by omega⟩, fun H2 pl s2 npl hp2 => hN2 _ _ ⟨pl, rfl, e1.trans (.of s2), hp2, t1.ext s2, ?_⟩⟩
        exact freeN e1 npl
      rintro σ' H' ⟨pl, rfl, bs⟩
      -- the points
      refine seq_gen (fun σ' H' => ∃ ra rb pa pb, σ' = [some (.ref a), some (.int (0 + ↑i)), some (.ref pl), v3, v4, v5, v6, v7, v8, some (.ref ra), some (.ref rb)] ∧ Bs TL H pl H' ∧ Two pl H' ra rb pa pb) (fun N2 hN2 => ?_) ?_
      · walk_at "nm"
        refine ⟨pl, 9, rfl, bs.pool, by decide, by decide, fun ra pa H2 sa pta hp2 x2 => ?_⟩
        have bs2 := bs.ex x2 hp2
        refine ⟨pl, 9, rfl, hp2, by decide, by decide, fun rb pb H3 sb ptb hp3 x3 => ?_⟩
        have bs3 := bs2.ex x3 hp3
        refine ⟨by rw [sizeLine_eq]; decide, fun p hp => ?_⟩
        refine ⟨p, _, rfl, SqT.of upd_same, rfl, _, _, rfl, _, _, rfl, rfl, hN2 _ _ ⟨ra, rb, pa, pb, rfl, bs3.upd hp, ?_⟩⟩
        have pta3 := pta.nx hp2 (Nx.ex x3)
        have x4 : Nx pl H3 (upd H3 p (.tup [.ref ra, .ref rb])) := Nx.refl.new hp
        exact ⟨fun H5 y => pta3.nx hp3 (x4.trans y), sa, fun H5 y => ptb.nx hp3 (x4.trans y), sb⟩
      rintro σ' H' ⟨ra, rb, pa, pb, rfl, bs, tw⟩
      -- the swap
      refine seq_gen (fun σ' H' => ∃ ra rb pa pb, σ' = [some (.ref a), some (.int (0 + ↑i)), some (.ref pl), v3, v4, v5, v6, v7, v8, some (.ref ra), some (.ref rb)] ∧ Bs TL H pl H' ∧ Two pl H' ra rb pa pb ∧ ptLt pa pb = false) (fun N2 hN2 => ?_) ?_
      · walk_at "nm"
        refine ⟨ra, rb, pa, pb, rfl, rfl, tw.a1 _ Nx.refl, tw.b1 _ Nx.refl, _, rfl, ?_⟩
        cases hl : ptLt pa pb with
        | false =>
          rw [if_neg (by decide)]
          exact hN2 _ _ ⟨ra, rb, pa, pb, rfl, bs, tw, hl⟩
        | true =>
          rw [if_pos rfl]
          refine ⟨by rw [sizeLine_eq]; decide, fun p hp => ⟨p, _, rfl, SqT.of upd_same, rfl, _, _, rfl, _, _, rfl, rfl, hN2 _ _ ⟨rb, ra, pb, pa, rfl, bs.upd hp, ?_, ptLt_asymm hl⟩⟩⟩
          have tw2 := tw.nx (Nx.refl.new (o := .tup [.ref rb, .ref ra]) hp)
          exact ⟨tw2.b1, tw2.b2, tw2.a1, tw2.a2⟩
      rintro σ' H' ⟨ra, rb, pa, pb, rfl, bs, tw, hlt⟩
      have pva : ∀ H2, (∀ H3, Nx pl H2 H3 → PtAt H3 ra pa) → PtV K H2 (.ref ra) true := fun H2 h => (h _ Nx.refl).ptv tw.a2.pt (by have := tw.a2.sm; omega)
      have pvb : ∀ H2, (∀ H3, Nx pl H2 H3 → PtAt H3 rb pb) → PtV K H2 (.ref rb) true := fun H2 h => (h _ Nx.refl).ptv tw.b2.pt (by have := tw.b2.sm; omega)
      -- Arc(one, other)
      refine seq_gen (fun σ' H' => σ' = [some (.ref a), some (.int (0 + ↑i)), some (.ref pl), v3, v4, v5, v6, v7, v8, some (.ref ra), some (.ref rb)] ∧ Bs TL H pl H' ∧ Two pl H' ra rb pa pb) (fun N2 hN2 => ?_) ?_
      · walk_at "nm"
        refine lamArc (v := .ref ra) (w := .ref rb) bs (fun H2 E2 Q2 x2 o => ?_) (fun H2 r x2 bs2 hr' ne => ?_)
        · refine ⟨_, rfl, _, rfl, ?_⟩
          intro x dx nx ndx nex
          generalize hg : upd (upd _ dx _) x _ = G3
          have s3 := madeOf nx ndx nex hg
          have h3 := atOf hg
          clear hg
          have tw2 := tw.nx (x2.trans (.same s3))
          exact ⟨x, dx, _, _, rfl, h3, .inr (.inr ⟨ra, rb, pa, pb, rfl, rfl, pva _ tw2.a1, pvb _ tw2.b1, tw2.a1 _ Nx.refl, tw2.b1 _ Nx.refl, .inl ⟨hlt, o.same s3⟩⟩)⟩
        · refine ⟨by rw [sizeLine_eq]; decide, fun p hp => ?_⟩
          have x3 := x2.new (o := .lst [V.str (Str.ofString "arc"), V.bl true, V.ref ra, V.ref rb]) hp
          have da := (tw.a1 _ x3).dp (K := K)
          have db := (tw.b1 _ x3).dp (K := K)
          refine neD_same (.list [.str "arc", .bool true, ptD pa, ptD pb]) (.lst (SqL.of (upd_keep hr' hp)) (.cons (.str _) (.cons (.bl _) (.cons da (.cons db .nil))))) (.lst (SqL.of upd_same) (.cons (.str _) (.cons (.bl _) (.cons da (.cons db .nil))))) (shapedPts (by decide +kernel) tw.a2.ok tw.b2.ok) ⟨_, rfl, ?_⟩
          rw [if_neg (by decide)]
          exact hN2 _ _ ⟨rfl, bs2.upd hp, tw.nx x3⟩
      rintro σ' H' ⟨rfl, bs, tw⟩
      -- the odd value
      refine seq_gen (fun σ' H' => ∃ od dat, σ' = [some (.ref a), some (.int (0 + ↑i)), some (.ref pl), some od, v4, v5, v6, v7, v8, some (.ref ra), some (.ref rb)] ∧ Bs TL H pl H' ∧ Two pl H' ra rb pa pb ∧ Od K pl H' od dat) (fun N2 hN2 => ?_) ?_
      · walk_at "nm"
        refine ⟨by rw [sizeLine_eq]; decide, fun p1 n1 => ?_⟩
        generalize hg : upd _ p1 _ = G1
        have s1 := sameOf n1 hg
        have h1 := atOf hg
        clear hg
        refine ⟨by rw [sizeLine_eq]; decide, fun p2 n2 => ?_⟩
        generalize hg : upd _ p2 _ = G2
        have s2 := sameOf n2 hg
        have h2 := atOf hg
        clear hg
        refine ⟨by rw [sizeLine_eq]; decide, fun p3 n3 => ?_⟩
        generalize hg : upd _ p3 _ = G3
        have s3 := sameOf n3 hg
        have h3 := atOf hg
        clear hg
        refine ⟨by rw [sizeLine_eq]; decide, fun p4 n4 => ?_⟩
        generalize hg : upd _ p4 _ = G4
        have s4 := sameOf n4 hg
        have h4 := atOf hg
        clear hg
        refine ⟨⟨by decide, by decide, by decide⟩, ?_⟩
        rw [show (2 : Int) ^ Int.toNat 32 = 4294967296 by decide]
        refine ⟨by rw [sizeLine_eq]; decide, fun p5 n5 => ?_⟩
        generalize hg : upd _ p5 _ = G5
        have s5 := sameOf n5 hg
        have h5 := atOf hg
        clear hg
        refine ⟨by rw [sizeLine_eq]; decide, fun p6 n6 => ?_⟩
        generalize hg : upd _ p6 _ = G6
        have s6 := sameOf n6 hg
        have h6 := atOf hg
        clear hg
        refine ⟨by rw [sizeLine_eq]; decide, fun p7 n7 => ?_⟩
        generalize hg : upd _ p7 _ = G7
        have s7 := sameOf n7 hg
        have h7 := atOf hg
        clear hg
        have b1 := bs.same s1
        have b2 := b1.same s2
        have b3 := b2.same s3
        have b4 := b3.same s4
        have b5 := b4.same s5
        have b6 := b5.same s6
        have b7 := b6.same s7
        have k6 := s6.trans s7
        have k5 := s5.trans k6
        have k4 := s4.trans k5
        have k3 := s3.trans k4
        have k2 := s2.trans k3
        have k1 := s1.trans k2
        refine ⟨pl, 9, rfl, b7.pool, by decide, by decide, fun w G8 w0 w1 hp8 x8 => ?_⟩
        have b8 := b7.ex x8 hp8
        have y8 : Nx pl G7 G8 := Nx.ex x8
        have tw8 := tw.nx ((Nx.same k1).trans y8)
        have g1 := fun H2 (y : Nx pl G8 H2) => ((Nx.same k2).trans (y8.trans y)).at h1 (bs.ne n1)
        have g2 := fun H2 (y : Nx pl G8 H2) => ((Nx.same k3).trans (y8.trans y)).at h2 (b1.ne n2)
        have g3 := fun H2 (y : Nx pl G8 H2) => ((Nx.same k4).trans (y8.trans y)).at h3 (b2.ne n3)
        have g4 := fun H2 (y : Nx pl G8 H2) => ((Nx.same k5).trans (y8.trans y)).at h4 (b3.ne n4)
        have g5 := fun H2 (y : Nx pl G8 H2) => ((Nx.same k6).trans (y8.trans y)).at h5 (b4.ne n5)
        have g6 := fun H2 (y : Nx pl G8 H2) => ((Nx.same s7).trans (y8.trans y)).at h6 (b5.ne n6)
        have g7 := y8.at h7 (b6.ne n7)
        have key : ∃ od dat, atI [V.non, V.int 5, V.ref p1, V.ref p2, V.ref p3, V.ref p4, V.str (Str.ofString "1:a"), V.ref p5, V.ref p6] w = some od ∧ Od K pl G8 od dat := by
          rcases (show w = 0 ∨ w = 1 ∨ w = 2 ∨ w = 3 ∨ w = 4 ∨ w = 5 ∨ w = 6 ∨ w = 7 ∨ w = 8 by omega) with rfl | rfl | rfl | rfl | rfl | rfl | rfl | rfl | rfl
          · exact ⟨_, .none, rfl, fun H2 y => ⟨.no .non rfl, .non⟩, by decide +kernel, by decide +kernel, by decide +kernel, by decide +kernel, by decide +kernel⟩
          · exact ⟨_, .int 5, rfl, fun H2 y => ⟨.no (.int 5) rfl, .int 5⟩, by decide +kernel, by decide +kernel, by decide +kernel, by decide +kernel, by decide +kernel⟩
          · exact ⟨_, .tuple [.int 1], rfl, fun H2 y => ⟨.len (g1 H2 y) (by decide) (by decide), .tup (SqT.of (g1 H2 y)) (.cons (.int 1) .nil)⟩, by decide +kernel, by decide +kernel, by decide +kernel, by decide +kernel, by decide +kernel⟩
          · exact ⟨_, .list [.int 1, .str "a"], rfl, fun H2 y => ⟨.no (.lst (g2 H2 y)) rfl, .lst (SqL.of (g2 H2 y)) (.cons (.int 1) (.cons (.str _) .nil))⟩, by decide +kernel, by decide +kernel, by decide +kernel, by decide +kernel, by decide +kernel⟩
          · exact ⟨_, .tuple [.bool true, .str ""], rfl, fun H2 y => ⟨.two (ku := .bl true) (kt := .str "") (g3 H2 y) (.bl true) (.str _) (show (Str.ofString "").length ≤ 1000000 by decide +kernel), .tup (SqT.of (g3 H2 y)) (.cons (.bl true) (.cons (.str _) .nil))⟩, by decide +kernel, by decide +kernel, by decide +kernel, by decide +kernel, by decide +kernel⟩
          · exact ⟨_, .tuple [.int 1, .str "A"], rfl, fun H2 y => ⟨ptFalse (by decide +kernel) (.two (ku := .int 1) (kt := .str "A") (g4 H2 y) (.int 1) (.str _) (show (Str.ofString "A").length ≤ 1000000 by decide +kernel)), .tup (SqT.of (g4 H2 y)) (.cons (.int 1) (.cons (.str _) .nil))⟩, by decide +kernel, by decide +kernel, by decide +kernel, by decide +kernel, by decide +kernel⟩
          · exact ⟨_, .str "1:a", rfl, fun H2 y => ⟨.no (.str _) rfl, .str _⟩, by decide +kernel, by decide +kernel, by decide +kernel, by decide +kernel, by decide +kernel⟩
          · exact ⟨_, .tuple [.int 4294967296, .str "b"], rfl, fun H2 y => ⟨ptFalse (by decide +kernel) (.two (ku := .int 4294967296) (kt := .str "b") (g5 H2 y) (.int 4294967296) (.str _) (show (Str.ofString "b").length ≤ 1000000 by decide +kernel)), .tup (SqT.of (g5 H2 y)) (.cons (.int 4294967296) (.cons (.str _) .nil))⟩, by decide +kernel, by decide +kernel, by decide +kernel, by decide +kernel, by decide +kernel⟩
          · exact ⟨_, .tuple [.int 1, .none], rfl, fun H2 y => ⟨.two (ku := .int 1) (kt := .non) (g6 H2 y) (.int 1) .non trivial, .tup (SqT.of (g6 H2 y)) (.cons (.int 1) (.cons .non .nil))⟩, by decide +kernel, by decide +kernel, by decide +kernel, by decide +kernel, by decide +kernel⟩
        obtain ⟨od, dat, eo, ho⟩ := key
        refine ixL (SqL.of g7) eo (hN2 _ _ ⟨od, dat, rfl, b8, tw8, ho⟩)
      rintro σ' H' ⟨od, dat, rfl, bs, tw, hod⟩
      -- what is due
      refine seq_gen (fun σ' H' => ∃ d, σ' = [some (.ref a), some (.int (0 + ↑i)), some (.ref pl), some od, some (.ref d), v5, v6, v7, v8, some (.ref ra), some (.ref rb)] ∧ Bs TL H pl H' ∧ Two pl H' ra rb pa pb ∧ Od K pl H' od dat ∧ ∀ H2, Nx pl H' H2 → H2 d = some (.lst [.str "point", .bl true, .str dat.shown])) (fun N2 hN2 => ?_) ?_
      · walk_at "nm"
        refine ⟨od, dat, rfl, (hod.box _ Nx.refl).2, hod.sh, hod.hd, hod.dp, hod.ln, ?_⟩
        refine ⟨by rw [sizeLine_eq]; decide, fun p1 n1 => ?_⟩
        generalize hg : upd _ p1 _ = G1
        have s1 := sameOf n1 hg
        have h1 := atOf hg
        clear hg
        exact hN2 _ _ ⟨p1, rfl, bs.same s1, tw.nx (.same s1), hod.nx (.same s1), fun H2 y => y.at h1 (bs.ne n1)⟩
      rintro σ' H' ⟨d, rfl, bs, tw, hod, hd⟩
      have fin : ∀ {G r} {Q2 : VK}, G r = some (.lst [.str "point", .bl true, .str dat.shown]) → G d = some (.lst [.str "point", .bl true, .str dat.shown]) → Q2 (.bl false) G → rNeD K (.ref r) (.ref d) G Q2 := fun {G r Q2} e1 e2 q2 =>
        neD_same (.list [.str "point", .bool true, .str dat.shown]) (.lst (SqL.of e1) (.cons (.str _) (.cons (.bl _) (.cons (.str _) .nil)))) (.lst (SqL.of e2) (.cons (.str _) (.cons (.bl _) (.cons (.str _) .nil)))) (shapedTxt (by decide +kernel) hod.ok) q2
      -- Arc(odd, None)
      refine seq_gen (fun σ' H' => σ' = [some (.ref a), some (.int (0 + ↑i)), some (.ref pl), some od, some (.ref d), v5, v6, v7, v8, some (.ref ra), some (.ref rb)] ∧ Bs TL H pl H' ∧ Two pl H' ra rb pa pb ∧ Od K pl H' od dat ∧ ∀ H2, Nx pl H' H2 → H2 d = some (.lst [.str "point", .bl true, .str dat.shown])) (fun N2 hN2 => ?_) ?_
      · walk_at "nm"
        refine lamPoint (v := od) (dat := dat) bs (fun H2 E2 Q2 x2 o => ?_) (fun H2 y => (hod.box H2 y).2) hod.sh hod.hd hod.dp hod.ln (fun H2 r x2 bs2 hr' ne => ?_)
        · refine ⟨_, rfl, ?_⟩
          intro x dx nx ndx nex
          generalize hg : upd (upd _ dx _) x _ = G3
          have s3 := madeOf nx ndx nex hg
          have h3 := atOf hg
          clear hg
          exact ⟨x, dx, _, _, rfl, h3, .inl ⟨(hod.box _ (x2.trans (.same s3))).1, o.same s3⟩⟩
        · refine fin hr' (hd _ x2) ⟨_, rfl, ?_⟩
          rw [if_neg (by decide)]
          exact hN2 _ _ ⟨rfl, bs2, tw.nx x2, hod.nx x2, fun H3 y => hd H3 (x2.trans y)⟩
      rintro σ' H' ⟨rfl, bs, tw, hod, hd⟩
      -- Arc(one, odd)
      refine seq_gen (fun σ' H' => σ' = [some (.ref a), some (.int (0 + ↑i)), some (.ref pl), some od, some (.ref d), v5, v6, v7, v8, some (.ref ra), some (.ref rb)] ∧ Bs TL H pl H' ∧ Two pl H' ra rb pa pb ∧ Od K pl H' od dat ∧ ∀ H2, Nx pl H' H2 → H2 d = some (.lst [.str "point", .bl true, .str dat.shown])) (fun N2 hN2 => ?_) ?_
      · walk_at "nm"
        refine lamPoint (v := od) (dat := dat) bs (fun H2 E2 Q2 x2 o => ?_) (fun H2 y => (hod.box H2 y).2) hod.sh hod.hd hod.dp hod.ln (fun H2 r x2 bs2 hr' ne => ?_)
        · refine ⟨_, rfl, _, rfl, ?_⟩
          intro x dx nx ndx nex
          generalize hg : upd (upd _ dx _) x _ = G3
          have s3 := madeOf nx ndx nex hg
          have h3 := atOf hg
          clear hg
          have x3 := x2.trans (.same s3)
          exact ⟨x, dx, _, _, rfl, h3, .inr (.inl ⟨pva _ (tw.nx x3).a1, (hod.box _ x3).1, o.same s3⟩)⟩
        · refine fin hr' (hd _ x2) ⟨_, rfl, ?_⟩
          rw [if_neg (by decide)]
          exact hN2 _ _ ⟨rfl, bs2, tw.nx x2, hod.nx x2, fun H3 y => hd H3 (x2.trans y)⟩
      rintro σ' H' ⟨rfl, bs, tw, hod, hd⟩
      -- the line
      refine seq_gen (fun σ' H' => ∃ ln, σ' = [some (.ref a), some (.int (0 + ↑i)), some (.ref pl), some od, some (.ref d), some (.ref ln), v6, v7, v8, some (.ref ra), some (.ref rb)] ∧ Bs TL H pl H' ∧ Two pl H' ra rb pa pb ∧ Od K pl H' od dat ∧ (∀ H2, Nx pl H' H2 → H2 d = some (.lst [.str "point", .bl true, .str dat.shown])) ∧ ∃ dx u v, ∀ H2, Nx pl H' H2 → H2 ln = some (.ins (ga K "Arc") dx [("own_start", u), ("own_end", v)])) (fun N2 hN2 => ?_) ?_
      · walk_at "nm"
        refine ⟨by rw [sizeLine_eq]; decide, fun p1 n1 => ?_⟩
        generalize hg : upd _ p1 _ = G1
        have s1 := sameOf n1 hg
        have h1 := atOf hg
        clear hg
        refine ⟨by rw [sizeLine_eq]; decide, fun p2 n2 => ?_⟩
        generalize hg : upd _ p2 _ = G2
        have s2 := sameOf n2 hg
        have h2 := atOf hg
        clear hg
        intro x dx nx ndx nex
        generalize hg : upd (upd _ dx _) x _ = G3
        have s3 := madeOf nx ndx nex hg
        have h3 := atOf hg
        clear hg
        have b1 := bs.same s1
        have b2 := b1.same s2
        have b3 := b2.same s3
        have q1 : PtAt G3 p1 (0, Str.ofString "") := s3 _ _ (s2 _ _ h1)
        have q2 : PtAt G3 p2 (20, Str.ofString "") := s3 _ _ h2
        refine ⟨x, dx, _, _, rfl, h3, .inr (.inr ⟨p1, p2, _, _, rfl, rfl, q1.ptv (by decide +kernel) (by decide +kernel), q2.ptv (by decide +kernel) (by decide +kernel), q1, q2, .inr ⟨by decide +kernel, fun G4 hx x4 => ⟨rfl, ?_⟩⟩⟩)⟩
        obtain ⟨ldx, hx⟩ := hx
        have sx : Same H' G3 := s1.trans (s2.trans s3)
        have nx0 : G2 x = none := nx
        have s4 : Same H' G4 := fun c o e => x4 c o (ne_of_none ((s1.trans s2) _ _ e) nx0) (sx _ _ e)
        have b4 := bs.same s4
        exact hN2 _ _ ⟨x, rfl, b4, tw.nx (.same s4), hod.nx (.same s4), fun H2 y => hd H2 ((Nx.same s4).trans y), ldx, _, _, fun H2 y => y.at hx (b2.ne nx0)⟩
      rintro σ' H' ⟨ln, rfl, bs, tw, hod, hd, ldx, lu, lv, hln⟩
      -- line.split(one, odd, None)
      refine seq_gen (fun σ' H' => σ' = [some (.ref a), some (.int (0 + ↑i)), some (.ref pl), some od, some (.ref d), some (.ref ln), v6, v7, v8, some (.ref ra), some (.ref rb)] ∧ Bs TL H pl H' ∧ Two pl H' ra rb pa pb ∧ (∀ H2, Nx pl H' H2 → H2 ln = some (.ins (ga K "Arc") ldx [("own_start", lu), ("own_end", lv)]))) (fun N2 hN2 => ?_) ?_
      · walk_at "nm"
        refine lamPoint (v := od) (dat := dat) bs (fun H2 E2 Q2 x2 o => ?_) (fun H2 y => (hod.box H2 y).2) hod.sh hod.hd hod.dp hod.ln (fun H2 r x2 bs2 hr' ne => ?_)
        · refine ⟨_, rfl, ln, ldx, _, rfl, hln _ x2, (by rw [lookS (by decide +kernel), lookS (by decide +kernel)]; rfl), _, rfl, _, rfl, _, _, rfl, (by rw [sizeLine_eq]; simp), ?_⟩
          intro p1 n1
          generalize hg : upd _ p1 _ = G3
          have s3 := sameOf n1 hg
          have h3 := atOf hg
          clear hg
          have x3 := x2.trans (.same s3)
          refine ⟨ln, p1, _, 1, od, rfl, h3, by simp, ⟨rfl, (hod.box _ x3).1, fun j hj => ⟨_, ?_, pva _ (tw.nx x3).a1⟩⟩, o.same s3⟩
          rw [show j = 0 by omega]
          rfl
        · refine fin hr' (hd _ x2) ⟨_, rfl, ?_⟩
          rw [if_neg (by decide)]
          exact hN2 _ _ ⟨rfl, bs2, tw.nx x2, fun H3 y => hln H3 (x2.trans y)⟩
      rintro σ' H' ⟨rfl, bs, tw, hln⟩
      -- the thing
      refine seq_gen (fun σ' H' => ∃ th, σ' = [some (.ref a), some (.int (0 + ↑i)), some (.ref pl), some od, some (.ref d), some (.ref ln), some th, v7, v8, some (.ref ra), some (.ref rb)] ∧ Bs TL H pl H' ∧ (∀ H2, Nx pl H' H2 → H2 ln = some (.ins (ga K "Arc") ldx [("own_start", lu), ("own_end", lv)])) ∧ (∀ H2, Nx pl H' H2 → ∃ k, Is K H2 th k ∧ (∀ a D, k = .ins a D → D = ga K "Arc") ∧ k.isC (ga K "Arc") = false)) (fun N2 hN2 => ?_) ?_
      · walk_at "nm"
        refine ⟨by rw [sizeLine_eq]; decide, fun p1 n1 => ?_⟩
        generalize hg : upd _ p1 _ = G1
        have s1 := sameOf n1 hg
        have h1 := atOf hg
        clear hg
        refine ⟨by rw [sizeLine_eq]; decide, fun p2 n2 => ?_⟩
        generalize hg : upd _ p2 _ = G2
        have s2 := sameOf n2 hg
        have h2 := atOf hg
        clear hg
        refine ⟨by rw [sizeLine_eq]; decide, fun p3 n3 => ?_⟩
        generalize hg : upd _ p3 _ = G3
        have s3 := sameOf n3 hg
        have h3 := atOf hg
        clear hg
        have b1 := bs.same s1
        have b2 := b1.same s2
        have b3 := b2.same s3
        refine ⟨pl, 5, rfl, b3.pool, by decide, by decide, fun w G8 w0 w1 hp8 x8 => ?_⟩
        have b8 := b3.ex x8 hp8
        have y8 : Nx pl G3 G8 := Nx.ex x8
        have y0 : Nx pl H' G8 := (Nx.same (s1.trans (s2.trans s3))).trans y8
        have g1 := fun H2 (y : Nx pl G8 H2) => ((Nx.same (s2.trans s3)).trans (y8.trans y)).at h1 (bs.ne n1)
        have g2 := fun H2 (y : Nx pl G8 H2) => ((Nx.same s3).trans (y8.trans y)).at h2 (b1.ne n2)
        have g3 := y8.at h3 (b2.ne n3)
        have key : ∃ th, atI [V.non, V.int 5, V.str (Str.ofString "0:~9:"), V.ref p1, V.ref p2] w = some th ∧ (∀ H2, Nx pl G8 H2 → ∃ k, Is K H2 th k ∧ (∀ a D, k = .ins a D → D = ga K "Arc") ∧ k.isC (ga K "Arc") = false) := by
          rcases (show w = 0 ∨ w = 1 ∨ w = 2 ∨ w = 3 ∨ w = 4 by omega) with rfl | rfl | rfl | rfl | rfl
          · exact ⟨_, rfl, fun H2 y => ⟨_, .non, (fun _ _ z => by cases z), rfl⟩⟩
          · exact ⟨_, rfl, fun H2 y => ⟨_, .int 5, (fun _ _ z => by cases z), rfl⟩⟩
          · exact ⟨_, rfl, fun H2 y => ⟨_, .str _, (fun _ _ z => by cases z), rfl⟩⟩
          · exact ⟨_, rfl, fun H2 y => ⟨_, .tup (g1 H2 y), (fun _ _ z => by cases z), rfl⟩⟩
          · exact ⟨_, rfl, fun H2 y => ⟨_, .lst (g2 H2 y), (fun _ _ z => by cases z), rfl⟩⟩
        obtain ⟨th, eo, ho⟩ := key
        exact ixL (SqL.of g3) eo (hN2 _ _ ⟨th, rfl, b8, fun H2 y => hln H2 (y0.trans y), ho⟩)
      rintro σ' H' ⟨th, rfl, bs, hln, hth⟩
      -- tiling_fault(thing, None)
      refine seq_gen (fun σ' H' => σ' = [some (.ref a), some (.int (0 + ↑i)), some (.ref pl), some od, some (.ref d), some (.ref ln), some th, v7, v8, some (.ref ra), some (.ref rb)] ∧ Bs TL H pl H' ∧ (∀ H2, Nx pl H' H2 → H2 ln = some (.ins (ga K "Arc") ldx [("own_start", lu), ("own_end", lv)])) ∧ (∀ H2, Nx pl H' H2 → ∃ k, Is K H2 th k ∧ (∀ a D, k = .ins a D → D = ga K "Arc") ∧ k.isC (ga K "Arc") = false)) (fun N2 hN2 => ?_) ?_
      · walk_at "nm"
        refine lamArc (v := .non) (w := .non) bs (fun H2 E2 Q2 x2 o => ?_) (fun H2 r x2 bs2 hr' ne => ?_)
        · obtain ⟨k, hk, k1, k2⟩ := hth _ x2
          exact ⟨_, rfl, _, _, rfl, .inl ⟨k, hk, k1, k2, o⟩⟩
        · refine ⟨by rw [sizeLine_eq]; decide, fun p9 n9 => ?_⟩
          generalize hg : upd _ p9 _ = G9
          have s9 := sameOf n9 hg
          have h9 := atOf hg
          clear hg
          refine neD_same (.list [.str "arc", .bool true, .none, .none]) (.lst (SqL.of (s9 _ _ hr')) (.cons (.str _) (.cons (.bl _) (.cons (.non) (.cons (.non) .nil))))) (.lst (SqL.of h9) (.cons (.str _) (.cons (.bl _) (.cons (.non) (.cons (.non) .nil))))) (by decide +kernel) ⟨_, rfl, ?_⟩
          rw [if_neg (by decide)]
          have x9 := x2.trans (.same s9)
          exact hN2 _ _ ⟨rfl, bs2.same s9, fun H3 y => hln H3 (x9.trans y), fun H3 y => hth H3 (x9.trans y)⟩
      rintro σ' H' ⟨rfl, bs, hln, hth⟩
      -- some
      refine seq_gen (fun σ' H' => ∃ so, σ' = [some (.ref a), some (.int (0 + ↑i)), some (.ref pl), some od, some (.ref d), some (.ref ln), some th, some so, v8, some (.ref ra), some (.ref rb)] ∧ Bs TL H pl H' ∧ (∀ H2, Nx pl H' H2 → H2 ln = some (.ins (ga K "Arc") ldx [("own_start", lu), ("own_end", lv)])) ∧ (∀ H2, Nx pl H' H2 → ∃ k, Is K H2 th k ∧ (∀ a D, k = .ins a D → D = ga K "Arc") ∧ k.isC (ga K "Arc") = false) ∧ (∀ H2, Nx pl H' H2 → ∃ k, Is K H2 so k ∧ k.isT "list" = false)) (fun N2 hN2 => ?_) ?_
      · walk_at "nm"
        refine ⟨by rw [sizeLine_eq]; decide, fun p1 n1 => ?_⟩
        generalize hg : upd _ p1 _ = G1
        have s1 := sameOf n1 hg
        have h1 := atOf hg
        clear hg
        intro p2 n2
        generalize hg : upd _ p2 _ = G2
        have s2 := sameOf n2 hg
        have h2 := atOf hg
        clear hg
        refine ⟨by rw [sizeLine_eq]; decide, fun p3 n3 => ?_⟩
        generalize hg : upd _ p3 _ = G3
        have s3 := sameOf n3 hg
        have h3 := atOf hg
        clear hg
        have b1 := bs.same s1
        have b2 := b1.same s2
        have b3 := b2.same s3
        refine ⟨pl, 5, rfl, b3.pool, by decide, by decide, fun w G8 w0 w1 hp8 x8 => ?_⟩
        have b8 := b3.ex x8 hp8
        have y8 : Nx pl G3 G8 := Nx.ex x8
        have y0 : Nx pl H' G8 := (Nx.same (s1.trans (s2.trans s3))).trans y8
        have g1 := fun H2 (y : Nx pl G8 H2) => ((Nx.same (s2.trans s3)).trans (y8.trans y)).at h1 (bs.ne n1)
        have g2 := fun H2 (y : Nx pl G8 H2) => ((Nx.same s3).trans (y8.trans y)).at h2 (b1.ne n2)
        have g3 := y8.at h3 (b2.ne n3)
        have key : ∃ so, atI [V.non, V.ref p1, V.ref p2, V.str (Str.ofString "x"), V.ref ln] w = some so ∧ (∀ H2, Nx pl G8 H2 → ∃ k, Is K H2 so k ∧ k.isT "list" = false) := by
          rcases (show w = 0 ∨ w = 1 ∨ w = 2 ∨ w = 3 ∨ w = 4 by omega) with rfl | rfl | rfl | rfl | rfl
          · exact ⟨_, rfl, fun H2 y => ⟨_, .non, rfl⟩⟩
          · exact ⟨_, rfl, fun H2 y => ⟨_, .tup (g1 H2 y), rfl⟩⟩
          · exact ⟨_, rfl, fun H2 y => ⟨_, .dct (g2 H2 y), rfl⟩⟩
          · exact ⟨_, rfl, fun H2 y => ⟨_, .str _, rfl⟩⟩
          · exact ⟨_, rfl, fun H2 y => ⟨_, .ins (hln _ (y0.trans y)) T.o_Arc, rfl⟩⟩
        obtain ⟨so, eo, ho⟩ := key
        exact ixL (SqL.of g3) eo (hN2 _ _ ⟨so, rfl, b8, fun H2 y => hln H2 (y0.trans y), fun H2 y => hth H2 (y0.trans y), ho⟩)
      rintro σ' H' ⟨so, rfl, bs, hln, hth, hso⟩
      -- tiling_fault(line, some)
      refine seq_gen (fun σ' H' => σ' = [some (.ref a), some (.int (0 + ↑i)), some (.ref pl), some od, some (.ref d), some (.ref ln), some th, some so, v8, some (.ref ra), some (.ref rb)] ∧ Bs TL H pl H' ∧ (∀ H2, Nx pl H' H2 → H2 ln = some (.ins (ga K "Arc") ldx [("own_start", lu), ("own_end", lv)])) ∧ (∀ H2, Nx pl H' H2 → ∃ k, Is K H2 th k ∧ (∀ a D, k = .ins a D → D = ga K "Arc") ∧ k.isC (ga K "Arc") = false)) (fun N2 hN2 => ?_) ?_
      · walk_at "nm"
        refine lamArcs (v := .non) bs (fun H2 E2 Q2 x2 o => ?_) (fun H2 r x2 bs2 hr' ne => ?_)
        · obtain ⟨k, hk, k1⟩ := hso _ x2
          exact ⟨_, rfl, _, rfl, _, _, rfl, .inr ⟨ln, _, _, rfl, hln _ x2, _, k, rfl, hk, .inl ⟨k1, o⟩⟩⟩
        · refine ⟨by rw [sizeLine_eq]; decide, fun p9 n9 => ?_⟩
          generalize hg : upd _ p9 _ = G9
          have s9 := sameOf n9 hg
          have h9 := atOf hg
          clear hg
          refine neD_same (.list [.str "arcs", .bool true, .none]) (.lst (SqL.of (s9 _ _ hr')) (.cons (.str _) (.cons (.bl _) (.cons (.non) .nil)))) (.lst (SqL.of h9) (.cons (.str _) (.cons (.bl _) (.cons (.non) .nil)))) (by decide +kernel) ⟨_, rfl, ?_⟩
          rw [if_neg (by decide)]
          have x9 := x2.trans (.same s9)
          exact hN2 _ _ ⟨rfl, bs2.same s9, fun H3 y => hln H3 (x9.trans y), fun H3 y => hth H3 (x9.trans y)⟩
      rintro σ' H' ⟨rfl, bs, hln, hth⟩
      -- at
      refine seq_gen (fun σ' H' => ∃ at_ : Nat, at_ < 3 ∧ σ' = [some (.ref a), some (.int (0 + ↑i)), some (.ref pl), some od, some (.ref d), some (.ref ln), some th, some so, some (.int at_), some (.ref ra), some (.ref rb)] ∧ Bs TL H pl H' ∧ (∀ H2, Nx pl H' H2 → H2 ln = some (.ins (ga K "Arc") ldx [("own_start", lu), ("own_end", lv)])) ∧ (∀ H2, Nx pl H' H2 → ∃ k, Is K H2 th k ∧ (∀ a D, k = .ins a D → D = ga K "Arc") ∧ k.isC (ga K "Arc") = false)) (fun N2 hN2 => ?_) ?_
      · walk_at "nm"
        refine ⟨pl, 3, rfl, bs.pool, by decide, by decide, fun w G8 w0 w1 hp8 x8 => ?_⟩
        have b8 := bs.ex x8 hp8
        have y8 : Nx pl H' G8 := Nx.ex x8
        refine hN2 _ _ ⟨w.toNat, by omega, ?_, b8, fun H2 y => hln H2 (y8.trans y), fun H2 y => hth H2 (y8.trans y)⟩
        rw [show ((w.toNat : Nat) : Int) = w by omega]
      rintro σ' H' ⟨at_, h3, rfl, bs, hln, hth⟩
      -- tiling_fault(line, [line] * at + [thing, None])
      refine one_gen (fun σ' H' => σ' = [some (.ref a), some (.int (0 + ↑i)), some (.ref pl), some od, some (.ref d), some (.ref ln), some th, some so, some (.int at_), some (.ref ra), some (.ref rb)] ∧ Bs TL H pl H') (fun N2 hN2 => ?_) ?_
      · walk_at "nm"
        refine lamArcs (v := .int at_) bs (fun H2 E2 Q2 x2 o => ?_) (fun H2 r x2 bs2 hr' ne => ?_)
        · walk_at "nm"
          refine ⟨by rw [sizeLine_eq]; decide, fun p1 n1 => ?_⟩
          generalize hg : upd _ p1 _ = G1
          have s1 := sameOf n1 hg
          have h1 := atOf hg
          clear hg
          refine ⟨p1, _, _, rfl, rfl, h1, by omega, by omega, (by rw [sizeLine_eq]; simp; omega), ?_⟩
          intro p2 n2
          generalize hg : upd _ p2 _ = G2
          have s2 := sameOf n2 hg
          have h2 := atOf hg
          clear hg
          refine ⟨by rw [sizeLine_eq]; decide, fun p3 n3 => ?_⟩
          generalize hg : upd _ p3 _ = G3
          have s3 := sameOf n3 hg
          have h3 := atOf hg
          clear hg
          refine ⟨p2, p3, _, _, rfl, rfl, s3 _ _ h2, h3, (by rw [sizeLine_eq]; simp; omega), ?_⟩
          intro p4 n4
          generalize hg : upd _ p4 _ = G4
          have s4 := sameOf n4 hg
          have h4 := atOf hg
          clear hg
          have k4 := s1.trans (s2.trans (s3.trans s4))
          have x4 := x2.trans (.same k4)
          obtain ⟨k, hk, k1, k2⟩ := hth _ x4
          have hrep : (List.replicate (Int.toNat (at_ : Int)) [V.ref ln]).flatten = List.replicate at_ (V.ref ln) := by simp
          rw [hrep] at h4
          refine ⟨_, _, rfl, .inr ⟨ln, _, _, rfl, hln _ x4, _, _, rfl, .lst h4, .inr ⟨p4, _, at_, th, k, rfl, ?_, hk, k1, k2, fun j hj => ⟨ln, _, _, ?_, hln _ x4⟩, o.same k4⟩⟩⟩
          · simp
          · rw [List.getElem?_append_left (by simpa using hj)]
            simp [hj]
        · refine ⟨by rw [sizeLine_eq]; decide, fun p9 n9 => ?_⟩
          generalize hg : upd _ p9 _ = G9
          have s9 := sameOf n9 hg
          have h9 := atOf hg
          clear hg
          refine neD_same (.list [.str "arcs", .bool true, .int at_]) (.lst (SqL.of (s9 _ _ hr')) (.cons (.str _) (.cons (.bl _) (.cons (.int _) .nil)))) (.lst (SqL.of h9) (.cons (.str _) (.cons (.bl _) (.cons (.int _) .nil)))) (shapedInt (by decide +kernel)) ⟨_, rfl, ?_⟩
          rw [if_neg (by decide)]
          exact hN2 _ _ ⟨rfl, bs2.same s9⟩
      · rintro σ' H' ⟨rfl, bs⟩
        exact ⟨⟨_, _, _, _, _, _, _, _, _, _, rfl⟩, bs.ext, bs.tabs⟩
    · rintro σ H1 _
      exact hN _ _ trivial

theorem law_end {P : Program} {w : World} {K : Frag} {mg : Str → Option Value} (T : Txt K mg) :
    ∃ sp : Sp, (∀ (H : Hp) (a : Addr) (ns : List Int), ns.length ≤ 63 → (∀ z ∈ ns, Builtin.Int.intBits z ≤ 1048576) → (∀ p ∈ tf.map (cTA K), H p.2 = some (.tbl #[])) → SqL K H a (ns.map V.int) → sp [.ref a] H (fun v _ => v = .bl true) fun _ _ _ => False) ∧ LawOkT P w K mg (tf.map (cTA K)) 9 (ga K "law") sp :=
  ⟨sp_law K, fun H a ns hl hb ht hS => ⟨a, ns, rfl, hS, hl, hb, ht, fun _ => rfl⟩, ok_law T⟩

set_option maxHeartbeats 0
def fa0 : List Fa := [.glo "is_integer", .glo "in_range", .glo "is_key", .glo "is_point", .glo "check_point", .glo "split_at", .glo "check_arc", .glo "check_arcs", .glo "tiling_fault", .glo "_law_hand", .glo "_law_draw", .glo "_law_key", .glo "_law_point", .glo "_law_refused", .glo "law", .glo "InvalidPoint", .glo "InvalidArc", .glo "InvalidArcs", .glo "Arc", .cls "Arc", .mkr "Arc", .noat "Arc" "own_start", .noat "Arc" "own_end", .meth "Arc" "__contains__", .meth "Arc" "__and__", .meth "Arc" "split", .meth "Arc" "__eq__", .meth "Arc" "__repr__", .int "MAX_NUMBER" 4294967296, .int "MAX_LENGTH" 20]
def fa1 : List Fa := [.str "BEHIND" "!", .str "CHARACTERS" "abcdefghijklmnopqrstuvwxyz0123456789", .free "NotImplemented", .free "ValueError", .free "all", .free "bool", .free "enumerate", .free "int", .free "isinstance", .free "len", .free "list", .free "max", .free "min", .free "property", .free "range", .free "repr", .free "sorted", .free "str", .free "tuple"]
def fa : List Fa := fa0 ++ fa1
def fn0 : List DefG := [g_is_integer, g_in_range, g_is_key, g_is_point, g_check_point, g_split_at, g_check_arc, g_check_arcs, g_tiling_fault, g__law_hand, g__law_draw, g__law_key, g__law_point, g__law_refused, g_law, g_InvalidPoint_init, g_InvalidArc_init, g_InvalidArcs_init, g_Arc_init, g_Arc_start, g_Arc_end, g_Arc_contains, g_Arc_and, g_Arc_split, g_Arc_eq, g_Arc_repr]
def fn : List DefG := fn0
def loose0 : List Str := ["InvalidPoint", "InvalidArc", "InvalidArcs", "MAX_NUMBER", "MAX_LENGTH", "BEHIND", "CHARACTERS", "is_integer", "in_range", "is_key", "is_point", "check_point", "Arc", "split_at", "check_arc", "check_arcs", "tiling_fault", "_law_hand", "_law_draw", "_law_key", "_law_point", "_law_refused"]
def loose : List Str := loose0
def ex (K : Frag) : Bool := excTB "InvalidPoint" K && (excCB "InvalidPoint" K && (xfB K (ga K "InvalidPoint") && (eqO (PySem.W.findIn K (.ref (ga K "InvalidPoint")) "value") (some none) && (decide (PySem.W.kitOne K (.ref (ga K "InvalidPoint")) (.type "ValueError") = some true) && (decide (PySem.W.exmOne K (.ref (ga K "InvalidPoint")) (.ref (ga K "InvalidPoint")) = some true) && (decide (PySem.W.exmOne K (.ref (ga K "InvalidPoint")) (.ref (ga K "InvalidArc")) = some false) && (decide (PySem.W.exmOne K (.ref (ga K "InvalidPoint")) (.ref (ga K "InvalidArcs")) = some false) && (excTB "InvalidArc" K && (excCB "InvalidArc" K && (xfB K (ga K "InvalidArc") && (eqO (PySem.W.findIn K (.ref (ga K "InvalidArc")) "first") (some none) && (eqO (PySem.W.findIn K (.ref (ga K "InvalidArc")) "second") (some none) && (decide (PySem.W.kitOne K (.ref (ga K "InvalidArc")) (.type "ValueError") = some true) && (decide (PySem.W.exmOne K (.ref (ga K "InvalidArc")) (.ref (ga K "InvalidPoint")) = some false) && (decide (PySem.W.exmOne K (.ref (ga K "InvalidArc")) (.ref (ga K "InvalidArc")) = some true) && (decide (PySem.W.exmOne K (.ref (ga K "InvalidArc")) (.ref (ga K "InvalidArcs")) = some false) && (excTB "InvalidArcs" K && (excCB "InvalidArcs" K && (xfB K (ga K "InvalidArcs") && (eqO (PySem.W.findIn K (.ref (ga K "InvalidArcs")) "position") (some none) && (decide (PySem.W.kitOne K (.ref (ga K "InvalidArcs")) (.type "ValueError") = some true) && (decide (PySem.W.exmOne K (.ref (ga K "InvalidArcs")) (.ref (ga K "InvalidPoint")) = some false) && (decide (PySem.W.exmOne K (.ref (ga K "InvalidArcs")) (.ref (ga K "InvalidArc")) = some false) && (decide (PySem.W.exmOne K (.ref (ga K "InvalidArcs")) (.ref (ga K "InvalidArcs")) = some true) && (propB "Arc" "start" K && (propB "Arc" "end" K && (ownCB "Arc" K && (ownKB "Arc" K && (firstB "Arc" K && (noNeB "Arc" K && (true)))))))))))))))))))))))))))))))
abbrev R : PySem.W.OpenRow := PySem.W.OpenLaw.row PySem.Challenge.rw_arccursors_k04_errors_of_arcs
abbrev hk : PySem.W.Hook := hookG 7 fa ex fn tf
def ob (s : PySem.W.SharedT) : Ah.AlT := obsGG 7 fa ex fn tf (HandSHeadRun.getT s)
theorem ob_eq (s : PySem.W.SharedT) : ob s = hk.obs s.abs := obsGG_eq (HandSHeadRun.getT_eq s)
theorem run (w : World) : HandSHeadRun.RunEq R (PySem.W.view R.prog [25]) hk ob 20000 loose w := by
  intro os
  kernel_rfl
theorem txt {K : Frag} {h : Heap} {mg : Str → Option Value} (X : K.In h) (G : h.Ns mainGlobals mg) (c : SaysG fa ex fn K) (t : TabF tf h K) : Txt K mg := by
  have m0 := c.more
  unfold ex at m0
  obtain ⟨x0, m1⟩ := ba m0
  obtain ⟨x1, m2⟩ := ba m1
  obtain ⟨x2, m3⟩ := ba m2
  obtain ⟨x3, m4⟩ := ba m3
  obtain ⟨x4, m5⟩ := ba m4
  obtain ⟨x5, m6⟩ := ba m5
  obtain ⟨x6, m7⟩ := ba m6
  obtain ⟨x7, m8⟩ := ba m7
  obtain ⟨x8, m9⟩ := ba m8
  obtain ⟨x9, m10⟩ := ba m9
  obtain ⟨x10, m11⟩ := ba m10
  obtain ⟨x11, m12⟩ := ba m11
  obtain ⟨x12, m13⟩ := ba m12
  obtain ⟨x13, m14⟩ := ba m13
  obtain ⟨x14, m15⟩ := ba m14
  obtain ⟨x15, m16⟩ := ba m15
  obtain ⟨x16, m17⟩ := ba m16
  obtain ⟨x17, m18⟩ := ba m17
  obtain ⟨x18, m19⟩ := ba m18
  obtain ⟨x19, m20⟩ := ba m19
  obtain ⟨x20, m21⟩ := ba m20
  obtain ⟨x21, m22⟩ := ba m21
  obtain ⟨x22, m23⟩ := ba m22
  obtain ⟨x23, m24⟩ := ba m23
  obtain ⟨x24, m25⟩ := ba m24
  obtain ⟨x25, m26⟩ := ba m25
  obtain ⟨x26, m27⟩ := ba m26
  obtain ⟨x27, m28⟩ := ba m27
  obtain ⟨x28, m29⟩ := ba m28
  obtain ⟨x29, m30⟩ := ba m29
  obtain ⟨x30, m31⟩ := ba m30
  exact {
    d_is_integer := c.def_ 0,
    d_in_range := c.def_ 1,
    d_is_key := c.def_ 2,
    d_is_point := c.def_ 3,
    d_check_point := c.def_ 4,
    d_split_at := c.def_ 5,
    d_check_arc := c.def_ 6,
    d_check_arcs := c.def_ 7,
    d_tiling_fault := c.def_ 8,
    d__law_hand := c.def_ 9,
    d__law_draw := c.def_ 10,
    d__law_key := c.def_ 11,
    d__law_point := c.def_ 12,
    d__law_refused := c.def_ 13,
    d_law := c.def_ 14,
    d_InvalidPoint_init := c.def_ 15,
    d_InvalidArc_init := c.def_ 16,
    d_InvalidArcs_init := c.def_ 17,
    d_Arc_init := c.def_ 18,
    d_Arc_start := c.def_ 19,
    d_Arc_end := c.def_ 20,
    d_Arc_contains := c.def_ 21,
    d_Arc_and := c.def_ 22,
    d_Arc_split := c.def_ 23,
    d_Arc_eq := c.def_ 24,
    d_Arc_repr := c.def_ 25,
    m_is_integer := glo_ok X G (c.fact 0 (f := .glo "is_integer")),
    m_in_range := glo_ok X G (c.fact 1 (f := .glo "in_range")),
    m_is_key := glo_ok X G (c.fact 2 (f := .glo "is_key")),
    m_is_point := glo_ok X G (c.fact 3 (f := .glo "is_point")),
    m_check_point := glo_ok X G (c.fact 4 (f := .glo "check_point")),
    m_split_at := glo_ok X G (c.fact 5 (f := .glo "split_at")),
    m_check_arc := glo_ok X G (c.fact 6 (f := .glo "check_arc")),
    m_check_arcs := glo_ok X G (c.fact 7 (f := .glo "check_arcs")),
    m_tiling_fault := glo_ok X G (c.fact 8 (f := .glo "tiling_fault")),
    m__law_hand := glo_ok X G (c.fact 9 (f := .glo "_law_hand")),
    m__law_draw := glo_ok X G (c.fact 10 (f := .glo "_law_draw")),
    m__law_key := glo_ok X G (c.fact 11 (f := .glo "_law_key")),
    m__law_point := glo_ok X G (c.fact 12 (f := .glo "_law_point")),
    m__law_refused := glo_ok X G (c.fact 13 (f := .glo "_law_refused")),
    m_law := glo_ok X G (c.fact 14 (f := .glo "law")),
    m_InvalidPoint := glo_ok X G (c.fact 15 (f := .glo "InvalidPoint")),
    m_InvalidArc := glo_ok X G (c.fact 16 (f := .glo "InvalidArc")),
    m_InvalidArcs := glo_ok X G (c.fact 17 (f := .glo "InvalidArcs")),
    m_Arc := glo_ok X G (c.fact 18 (f := .glo "Arc")),
    c_Arc := cls_ok (c.fact 19 (f := .cls "Arc")),
    k_Arc := mkr_ok (c.fact 20 (f := .mkr "Arc")),
    n_Arc_own_start := noat_ok (c.fact 21 (f := .noat "Arc" "own_start")),
    n_Arc_own_end := noat_ok (c.fact 22 (f := .noat "Arc" "own_end")),
    e_Arc_contains := meth_ok (c.fact 23 (f := .meth "Arc" "__contains__")),
    e_Arc_and := meth_ok (c.fact 24 (f := .meth "Arc" "__and__")),
    e_Arc_split := meth_ok (c.fact 25 (f := .meth "Arc" "split")),
    e_Arc_eq := meth_ok (c.fact 26 (f := .meth "Arc" "__eq__")),
    e_Arc_repr := meth_ok (c.fact 27 (f := .meth "Arc" "__repr__")),
    v_MAX_NUMBER := int_ok X G (c.fact 28 (f := .int "MAX_NUMBER" 4294967296)),
    v_MAX_LENGTH := int_ok X G (c.fact 29 (f := .int "MAX_LENGTH" 20)),
    v_BEHIND := str_ok X G (c.fact 30 (f := .str "BEHIND" "!")),
    v_CHARACTERS := str_ok X G (c.fact 31 (f := .str "CHARACTERS" "abcdefghijklmnopqrstuvwxyz0123456789")),
    b_NotImplemented := free_ok X G (c.fact 32 (f := .free "NotImplemented")),
    b_ValueError := free_ok X G (c.fact 33 (f := .free "ValueError")),
    b_all := free_ok X G (c.fact 34 (f := .free "all")),
    b_bool := free_ok X G (c.fact 35 (f := .free "bool")),
    b_enumerate := free_ok X G (c.fact 36 (f := .free "enumerate")),
    b_int := free_ok X G (c.fact 37 (f := .free "int")),
    b_isinstance := free_ok X G (c.fact 38 (f := .free "isinstance")),
    b_len := free_ok X G (c.fact 39 (f := .free "len")),
    b_list := free_ok X G (c.fact 40 (f := .free "list")),
    b_max := free_ok X G (c.fact 41 (f := .free "max")),
    b_min := free_ok X G (c.fact 42 (f := .free "min")),
    b_property := free_ok X G (c.fact 43 (f := .free "property")),
    b_range := free_ok X G (c.fact 44 (f := .free "range")),
    b_repr := free_ok X G (c.fact 45 (f := .free "repr")),
    b_sorted := free_ok X G (c.fact 46 (f := .free "sorted")),
    b_str := free_ok X G (c.fact 47 (f := .free "str")),
    b_tuple := free_ok X G (c.fact 48 (f := .free "tuple")),
    r_InvalidPoint := excT_ok (glo_ok X G (c.fact 15 (f := .glo "InvalidPoint"))) x0,
    xc_InvalidPoint := excC_ok x1,
    xf_InvalidPoint := xfB_ok x2,
    xn_InvalidPoint_value := eqO_ok x3,
    xk_InvalidPoint := of_decide_eq_true x4,
    em_InvalidPoint_InvalidPoint := of_decide_eq_true x5,
    em_InvalidPoint_InvalidArc := of_decide_eq_true x6,
    em_InvalidPoint_InvalidArcs := of_decide_eq_true x7,
    r_InvalidArc := excT_ok (glo_ok X G (c.fact 16 (f := .glo "InvalidArc"))) x8,
    xc_InvalidArc := excC_ok x9,
    xf_InvalidArc := xfB_ok x10,
    xn_InvalidArc_first := eqO_ok x11,
    xn_InvalidArc_second := eqO_ok x12,
    xk_InvalidArc := of_decide_eq_true x13,
    em_InvalidArc_InvalidPoint := of_decide_eq_true x14,
    em_InvalidArc_InvalidArc := of_decide_eq_true x15,
    em_InvalidArc_InvalidArcs := of_decide_eq_true x16,
    r_InvalidArcs := excT_ok (glo_ok X G (c.fact 17 (f := .glo "InvalidArcs"))) x17,
    xc_InvalidArcs := excC_ok x18,
    xf_InvalidArcs := xfB_ok x19,
    xn_InvalidArcs_position := eqO_ok x20,
    xk_InvalidArcs := of_decide_eq_true x21,
    em_InvalidArcs_InvalidPoint := of_decide_eq_true x22,
    em_InvalidArcs_InvalidArc := of_decide_eq_true x23,
    em_InvalidArcs_InvalidArcs := of_decide_eq_true x24,
    p_Arc_start := propB_ok x25,
    p_Arc_end := propB_ok x26,
    o_Arc := ownC_ok (cls_ok (c.fact 19 (f := .cls "Arc"))) x27,
    q_Arc := ownK_ok x28,
    f_Arc := first_ok x29,
    x_Arc_ne := noNe_ok x30,
    t_law := t.code _ (List.mem_of_getElem? (i := 0) rfl) }
end k04
open PySem PySem.W PySem.Calls PyProof.Rows
set_option maxRecDepth 100000 in
set_option maxHeartbeats 0 in
theorem PySem.Challenge.cw_arccursors_k04_errors_of_arcs_holds : PySem.Challenge.rw_arccursors_k04_errors_of_arcs.Holds := by
  w_on; o_law
  refine HandSHeadRun.head_any (r := OpenLaw.row PySem.Challenge.rw_arccursors_k04_errors_of_arcs) (q := view (OpenLaw.row PySem.Challenge.rw_arccursors_k04_errors_of_arcs).prog [25]) (H := k04.hk) (ob := k04.ob) (M := 20000) (loose := k04.loose) (d := HandSHeadRun.topDef (OpenLaw.row PySem.Challenge.rw_arccursors_k04_errors_of_arcs).prog 25) (kwd := []) k04.ob_eq
    (by kernel_rfl) (fun s => by kernel_rfl) k04.run (by kernel_rfl) (by kernel_rfl) (by kernel_rfl) (by rfl) (by first | assumption | decide +kernel) (by decide +kernel) ⟨rfl, rfl, rfl, rfl, rfl, by decide +kernel⟩ ?hw ?hc
  case hw => w_witness2
  case hc =>
    refine Ah.law_walkT (l := PySem.Challenge.rw_arccursors_k04_errors_of_arcs) (n := 63) (k := 9) rfl (by decide) (by kernel_rfl) ⟨rfl, by decide, by decide⟩ ?F
    intro w mg fa h Y G hmg0
    obtain ⟨K, KX, c, tt⟩ := Y
    have hmg : mg ("law" : PySem.Str) = some (.ref fa) := by
      have e : (HandSHeadRun.topDef (OpenLaw.row PySem.Challenge.rw_arccursors_k04_errors_of_arcs).prog 25).name = ("law" : PySem.Str) := by kernel_rfl
      rw [← e]
      exact hmg0
    have T := k04.txt KX G c tt
    have e := hmg.symm.trans T.m_law
    cases e
    obtain ⟨sp, h3, h4⟩ := k04.law_end (P := (PySem.Challenge.rw_arccursors_k04_errors_of_arcs).prog) (w := w) T
    refine ⟨K, k04.tf.map (Ah.cTA K), sp, KX, fun p hp => ?_, fun p hp => ?_, fun p hp => ?_, h3, h4⟩
    · obtain ⟨f, hf, rfl⟩ := List.mem_map.mp hp
      exact tt.empty f hf
    · obtain ⟨f, hf, rfl⟩ := List.mem_map.mp hp
      exact tt.out f hf
    · obtain ⟨f, hf, rfl⟩ := List.mem_map.mp hp
      exact PySem.W.codeHd_of_K KX (tt.hd f hf)
