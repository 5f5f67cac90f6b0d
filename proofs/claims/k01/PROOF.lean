import PyProof.Rows.All
import Wide.All
import OpenK.AllK
import Wide.FinOn
import KE.KStateDown
import HandS.ForMost
import HandS.More
import HandS.Exc
import HandS.WordsExc
import HandS.Defaults
import HandS.Property
import HandS.Head0
import HandS.Head1
import HandS.Head2
import HandS.HeadEnd
import HandS.HeadHook1
import HandS.HeadHook2
import HandS.HeadHook3
import HandS.HeadHook4
import HandS.IsInst
import HandS.Flow
import HandS.Star
import HandS.FStr
import HandS.OwnEq
import HandS.Wide
import HandS.TupLe
import HandS.Codes
import PyProof.InstNe
import PyProof.StrBlock2
import HandS.SlotsOwn
import KE.KExcInit
import HandS.Walk
import PySem.Challenge.RW_arccursors_k01_keys_and_mixings
set_option Elab.async false
set_option linter.all false
set_option maxRecDepth 100000
set_option maxHeartbeats 4000000
/-! the head of a row by facts: defs at any address -/
namespace Ah
open PySem PySem.Spec PyProof.Rows L2 He
abbrev Frag := PySem.W.Frag
/-- the getter of a property -/
def gtA (C f : Str) (K : Frag) : Addr := match PySem.W.recIn K (ma K (ga K C) f) "property" with
  | some (.ref g :: _) => g
  | _ => 0
def glA (x : Str) (K : Frag) : Addr := ga K x
def mtA (C m : Str) (K : Frag) : Addr := ma K (ga K C) m
structure DefG where
  ad : Frag → Addr
  name : Str
  qual : Str
  params : Arguments
  body : List Stmt
  scope : Scope
  dfl : List Dv := []
  kwd : List (Str × Dv) := []
def fnG (K : Frag) (a : Addr) : FnW := match K.lookup a with
  | some ⟨_, _, .func fd, _⟩ => some (fd.name, fd.qualname, fd.params, fd.body, fd.scope, fd.globals, fd.closure, fd.builtins)
  | _ => none
def DefG.val (d : DefG) : FnW := some (d.name, d.qual, d.params, .stmts d.body, d.scope, mainGlobals, [], builtinsNs)
def DefG.dvs (K : Frag) (d : DefG) : List V := d.dfl.map (Dv.v K)
def DefG.kws (K : Frag) (d : DefG) : List (Str × V) := d.kwd.map fun q => (q.1, q.2.v K)
def DefG.ok (K : Frag) (d : DefG) : Bool := PySem.W.keepIn K (.ref (d.ad K)) && (match K.lookup (d.ad K) with
  | some ⟨_, _, .func fd, _⟩ => PySem.W.codeIn K fd.code d.qual && (dflB K fd.defaults (d.dvs K) && kwdB K fd.kwdefaults (d.kws K))
  | _ => false)
abbrev Stands (K : Frag) (d : DefG) : Prop := ∃ fd, FunD K d.name d.qual d.params d.body d.scope (d.dvs K) (d.kws K) (d.ad K) fd
theorem DefG.funD {K : Frag} {d : DefG} (e : fnG K (d.ad K) = d.val) (c : d.ok K = true) : Stands K d := by
  obtain ⟨kp, c2⟩ := ba c
  unfold fnG at e
  cases q : K.lookup (d.ad K) with
  | none =>
    rw [q] at c2
    cases c2
  | some o =>
    obtain ⟨oc, od, dt, osl⟩ := o
    rw [q] at c2 e
    cases dt with
    | func fd =>
      obtain ⟨n1, n2, n3, n4, n5, n6, n7, n8, n9, n10, n11, n12, n13, n14, n15⟩ := fd
      have e2 : (some (n1, n2, n3, n4, n5, n6, n7, n15) : FnW) = some (d.name, d.qual, d.params, .stmts d.body, d.scope, mainGlobals, [], builtinsNs) := e
      simp only [Option.some.injEq, Prod.mk.injEq] at e2
      obtain ⟨h1, h2, h3, h4, h5, h6, h7, h8⟩ := e2
      subst h1 h2 h3 h4 h5 h6 h7 h8
      have c3 : (PySem.W.codeIn K n13 d.qual && (dflB K n8 (d.dvs K) && kwdB K n9 (d.kws K))) = true := c2
      obtain ⟨k1, k2⟩ := ba c3
      obtain ⟨k3, k4⟩ := ba k2
      exact ⟨_, ⟨oc, od, n8, n9, n10, n11, n12, n13, n14, osl, rfl, q, k1, dflB_ok k3, kwdB_ok k4⟩, kp⟩
    | _ => cases c2
abbrev AlG : Type := Bool × List FnW
def obsG (fa : List Fa) (ex : Frag → Bool) (fn : List DefG) (K : Frag) : AlG := ((fa.all fun f => f.ok K) && (ex K && fn.all fun d => d.ok K), fn.map fun d => fnG K (d.ad K))
def valG (fn : List DefG) : AlG := (true, fn.map DefG.val)
def SaysG (fa : List Fa) (ex : Frag → Bool) (fn : List DefG) (K : Frag) : Prop := obsG fa ex fn K = valG fn
def obsGG (n : Nat) (fa : List Fa) (ex : Frag → Bool) (fn : List DefG) (g : Addr → Option Obj) : AlG := obsG fa ex fn (frG g (asD g n))
def hookG (n : Nat) (fa : List Fa) (ex : Frag → Bool) (fn : List DefG) : PySem.W.Hook where
  α := AlG
  obs := fun s => obsGG n fa ex fn s.heap.get?
  val := fun _ => valG fn
  says := fun _ h => ∃ K : Frag, K.In h ∧ SaysG fa ex fn K
  of := fun _ _ e => ⟨_, frG_in, e⟩
  keeps := fun _ _ _ ⟨K, hK, c⟩ k => ⟨K, PySem.W.Frag.In.keeps hK k, c⟩
theorem obsGG_eq {n : Nat} {fa : List Fa} {ex : Frag → Bool} {fn : List DefG} {g : Addr → Option Obj} {s : Shared} (h : ∀ a, g a = s.heap.get? a) : obsGG n fa ex fn g = (hookG n fa ex fn).obs s := by
  have e : g = s.heap.get? := funext h
  rw [e] <;> rfl
section
variable {fa : List Fa} {ex : Frag → Bool} {fn : List DefG} {K : Frag}
theorem SaysG.fact (c : SaysG fa ex fn K) (i : Nat) {f : Fa} (h : fa[i]? = some f := by rfl) : f.ok K = true := by
  have c1 := (ba (show ((fa.all fun f => f.ok K) && (ex K && fn.all fun d => d.ok K)) = true from congrArg (fun z : AlG => z.1) c)).1
  exact List.all_eq_true.mp c1 f (List.mem_of_getElem? h)
theorem SaysG.more (c : SaysG fa ex fn K) : ex K = true :=
  (ba (ba (show ((fa.all fun f => f.ok K) && (ex K && fn.all fun d => d.ok K)) = true from congrArg (fun z : AlG => z.1) c)).2).1
theorem SaysG.def_ (c : SaysG fa ex fn K) (i : Nat) {d : DefG} (h : fn[i]? = some d := by rfl) : Stands K d := by
  have c2 := (ba (ba (show ((fa.all fun f => f.ok K) && (ex K && fn.all fun d => d.ok K)) = true from congrArg (fun z : AlG => z.1) c)).2).2
  have e : fn.map (fun d => fnG K (d.ad K)) = fn.map DefG.val := congrArg (fun z : AlG => z.2) c
  have e2 : (fn.map fun d => fnG K (d.ad K))[i]? = (fn.map DefG.val)[i]? := by rw [e]
  rw [List.getElem?_map, List.getElem?_map, h] at e2
  exact DefG.funD (Option.some.inj e2) (List.all_eq_true.mp c2 d (List.mem_of_getElem? h))
end
/-- a property of a class -/
def propB (C f : Str) (K : Frag) : Bool :=
  eqO (PySem.W.findIn K (.ref (ga K C)) f) (some (some (.ref (ma K (ga K C) f)))) &&
  (eqO (PySem.W.specialIn K (.ref (ma K (ga K C) f)) "__get__") (some (some (.builtin "property.__get__"))) &&
  (decide (PySem.W.takesIn K (.ref (ma K (ga K C) f)) = some true) &&
  (match PySem.W.recIn K (ma K (ga K C) f) "property" with
    | some (.ref _ :: _) => true
    | _ => false)))
theorem propB_ok {C f : Str} {K : Frag} (h : propB C f K = true) : PropOf K (ga K C) f (ma K (ga K C) f) (gtA C f K) := by
  unfold propB at h
  obtain ⟨h1, h2⟩ := ba h
  obtain ⟨h2, h3⟩ := ba h2
  obtain ⟨h3, h4⟩ := ba h3
  refine ⟨eqO_ok h1, eqO_ok h2, of_decide_eq_true h3, ?_⟩
  unfold gtA
  cases q : PySem.W.recIn K (ma K (ga K C) f) "property" with
  | none => rw [q] at h4; cases h4
  | some l =>
    rw [q] at h4
    cases l with
    | nil => cases h4
    | cons v r =>
      cases v with
      | ref g => exact ⟨r, rfl⟩
      | _ => cases h4
end Ah

/-! short words: a def that keeps its promise (FnB), calls of it -/
namespace Ah
open PySem PySem.Spec PyProof.Rows L2 He
/-- the def at f, called by its positional arguments, keeps the promise sp -/
structure FnB (P : Program) (w : World) (K : Frag) (mg : Str → Option Value) (base : Heap) (k : Nat) (f : Addr) (sp : Sp) : Prop where
  ex : ∃ fd ps, FnOk P w K mg base (L2.CX P w) k f fd ps sp ∧ Binds K fd ps []
  kp : PySem.W.keepIn K (.ref f) = true
section
variable {P : Program} {w : World} {K : Frag} {mg : Str → Option Value} {base : Heap}
theorem FnB.mono {j k : Nat} {f : Addr} {sp : Sp} (F : FnB P w K mg base j f sp) (h : j ≤ k) : FnB P w K mg base k f sp := by
  obtain ⟨⟨fd, ps, G, b⟩, kp⟩ := F
  exact ⟨⟨fd, ps, G.mono h, b⟩, kp⟩
/-- THE RULE for a def without defaults -/
theorem okD {N ps : List Str} {k : Nat} {sp : Sp} {d : DefG} (S : Stands K d) (h0 : d.dfl = []) (sc : FnScope N ps d.scope) (len : ∀ vs H Q E, sp vs H Q E → vs.length = ps.length)
    (hb : ∀ (kV doc pm : Value) (an : Option Addr) (cdv ct : Value) (us : List Value), us.length = ps.length → bindArgs (PySem.W.fnOf d.name d.qual d.params d.body d.scope .none kV doc pm an cdv ct) ⟨us, []⟩ = pure (ps.zip us))
    (hbody : ∀ (cdv : Value) (A : Around) (outer : List Env) (s : Shared) (H : Hp) (vs : List V) (Q : VK) (E : XK), Room k (A.deeper (envOfC d.qual d.scope s.heap.objs.size (d.ad K) cdv)) → sp vs H Q E →
      ∃ t, PSs (cxOf (L2.CX P w) P w K mg base N d.qual d.scope (d.ad K) cdv A outer s H E) d.body t ∧ t { nx := fun _ H' => Q .non H', rt := Q } (start N vs) H) : FnB P w K mg base (k + 1) (d.ad K) sp := by
  obtain ⟨fd, F⟩ := S
  have e : d.dvs K = [] := by unfold DefG.dvs; rw [h0]; rfl
  rw [e] at F
  exact ⟨⟨fd, ps, F.ok sc len hbody, F.bindsN hb⟩, F.kp⟩
end
section
variable {X : Cx} {k j : Nat} {f C : Addr} {sp : Sp} {E : XK} {x m : Str} {e o : Expr} {es : List Expr} {t : TA} {ta : TE} {p pos apos : Pos}
theorem pe_cF (F : FnB X.prog X.w X.K X.mg X.base k f sp) (hr : Room j X.A) (hm : X.mg x = some (.ref f)) (hx : Passes (L2.CX X.prog X.w) X E) (ha : PA X (e :: es) t) (hk : k ≤ j := by decide) (hg : Gl X x := by rfl)
    (hdb : (x == ("__debug__" : Str)) = false := by decide) (he : starEach (e :: es) X.env = (false, eval e X.env) :: starEach es X.env := by rfl) (hpl : (backTo pos (starEach es X.env)).any (·.1) = false := by rfl) :
    PE X (.Call (.Name x p) (e :: es) [] pos) (tCall sp [] E t) := by
  obtain ⟨⟨fd, ps, G, b⟩, kp⟩ := F
  exact pe_call G (hr.mono hk) hg hm kp b .nil hx ha hdb he hpl
theorem pe_cF0 (F : FnB X.prog X.w X.K X.mg X.base k f sp) (hr : Room j X.A) (hm : X.mg x = some (.ref f)) (hx : Passes (L2.CX X.prog X.w) X E) (hk : k ≤ j := by decide) (hg : Gl X x := by rfl) (hdb : (x == ("__debug__" : Str)) = false := by decide) :
    PE X (.Call (.Name x p) [] [] pos) (tCall sp [] E tNil) := by
  obtain ⟨⟨fd, ps, G, b⟩, kp⟩ := F
  exact pe_call0 G (hr.mono hk) hg hm kp b .nil hx hdb
theorem pe_mkF (M : Mk X.K C f) (F : FnB X.prog X.w X.K X.mg X.base k f sp) (hr : Room j X.A) (hm : X.mg x = some (.ref C)) (hx : Passes (L2.CX X.prog X.w) X E) (ha : PA X (e :: es) t) (hk : k + 1 ≤ j := by decide) (hg : Gl X x := by rfl)
    (hdb : (x == ("__debug__" : Str)) = false := by decide) (he : starEach (e :: es) X.env = (false, eval e X.env) :: starEach es X.env := by rfl) (hpl : (backTo pos (starEach es X.env)).any (·.1) = false := by rfl) :
    PE X (.Call (.Name x p) (e :: es) [] pos) (tMake C sp [] E t) := by
  obtain ⟨⟨fd, ps, G, b⟩, kp⟩ := F
  exact pe_make M G (hr.mono hk) hg hm b .nil hx ha hdb he hpl
theorem pe_mtF {pl : Sem Bool} (he : PE X o ta) (c : Cls X.K C) (hm : Meth X.K C m f) (F : FnB X.prog X.w X.K X.mg X.base k f sp) (hr : Room j X.A) (hx : Passes (L2.CX X.prog X.w) X E) (ha : PA X (e :: es) t) (hk : k ≤ j := by decide)
    (hst : starEach (e :: es) X.env = (false, eval e X.env) :: starEach es X.env := by rfl) (hpl : (backTo pos (starEach es X.env)).any (·.1) = false := by rfl)
    (ht : eval (.Call (.Attribute o m apos) (e :: es) [] pos) X.env = (do
      let ov ← eval o X.env
      standAt apos.atName
      let (f, first) ← holding [ov] (getMethod ov m pl)
      callWith pos f first (backTo pos (starEach (e :: es) X.env)) (backToKw pos (keywordEach [] X.env))) := by rfl) :
    PE X (.Call (.Attribute o m apos) (e :: es) [] pos) (tMeth C m sp [] E ta t) := by
  obtain ⟨⟨fd, ps, G, b⟩, kp⟩ := F
  exact pe_meth he c hm G (hr.mono hk) b .nil hx ha hst hpl ht
theorem pe_mtF0 {pl : Sem Bool} (he : PE X o ta) (c : Cls X.K C) (hm : Meth X.K C m f) (F : FnB X.prog X.w X.K X.mg X.base k f sp) (hr : Room j X.A) (hx : Passes (L2.CX X.prog X.w) X E) (hk : k ≤ j := by decide)
    (ht : eval (.Call (.Attribute o m apos) [] [] pos) X.env = (do
      let ov ← eval o X.env
      standAt apos.atName
      let (f, first) ← holding [ov] (getMethod ov m pl)
      callWith pos f first (backTo pos (starEach [] X.env)) (backToKw pos (keywordEach [] X.env))) := by rfl) :
    PE X (.Call (.Attribute o m apos) [] [] pos) (tMeth C m sp [] E ta tNil) := by
  obtain ⟨⟨fd, ps, G, b⟩, kp⟩ := F
  exact pe_meth0 he c hm G (hr.mono hk) b .nil hx ht
theorem pe_prF {q : Addr} {y : Str} (he : PE X o ta) (c : Cls X.K C) (hp : PropOf X.K C y q f) (F : FnB X.prog X.w X.K X.mg X.base k f sp) (hr : Room j X.A) (hx : Passes (L2.CX X.prog X.w) X.nox E) (hk : k + 1 ≤ j := by decide)
    (hab : attributeBase o y X.env (eval o X.env) = eval o X.env := by rfl) : PE X (.Attribute o y pos) (tProp C sp [] E ta) := by
  obtain ⟨⟨fd, ps, G, b⟩, kp⟩ := F
  exact pe_prop he c hp G (hr.mono hk) b .nil hx hab
end
/-- a promise of a function of scalars: no heap is touched -/
theorem upd_keep {H : Hp} {a p : Addr} {o o' : HO} (h : H a = some o') (hp : H p = none) : upd H p o a = some o' := by
  rw [upd_ne (ne_of_none h hp)]
  exact h
theorem upd_other {H : Hp} {a p : Addr} {o o' : HO} (hn : a ≠ p) (h : H a = some o') : upd H p o a = some o' := by
  rw [upd_ne hn]
  exact h
theorem Same.upd {H H' : Hp} {p : Addr} {o : HO} (s : Same H H') (hp : H' p = none) : Same H (L2.upd H' p o) := fun b o' e => upd_keep (s b o' e) hp
end Ah

/-! kinds of values, isinstance -/
namespace Ah
open PySem PySem.Spec PyProof.Rows L2 He
/-- what a value is -/
inductive Kn where
  | int (i : Int)
  | bl (b : Bool)
  | str (z : Str)
  | non
  | lst (a : Addr) (xs : List V)
  | tup (a : Addr) (xs : List V)
  | dct (a : Addr) (kvs : List (Key × V))
  | ins (a C : Addr)
def bTys : List String := ["int", "bool", "str", "list", "tuple", "dict"]
/-- a class of the program's own, as isinstance sees its instances -/
structure OwnC (K : Frag) (C : Addr) : Prop where
  cl : Cls K C
  ha : PySem.W.findIn K (.ref C) "__class__" = some (some (.builtin "object.__class__"))
  hn : PySem.W.specialIn K (.builtin "object.__class__") "__get__" = some (some (.builtin "getset_descriptor.__get__"))
  htk : PySem.W.takesIn K (.builtin "object.__class__") = some true
  hm : PySem.W.mroIn K C (.type "object") = some true
  kit : ∀ T ∈ bTys, PySem.W.kitOne K (.ref C) (.type T) = some false
/-- .. as isinstance sees the class -/
structure OwnK (K : Frag) (C : Addr) : Prop where
  kit : ∀ T ∈ ["NoneType", "int", "bool", "str", "list", "tuple", "dict"], PySem.W.kitOne K (.type T) (.ref C) = some false
inductive Is (K : Frag) (H : Hp) : V → Kn → Prop where
  | int (i : Int) : Is K H (.int i) (.int i)
  | bl (b : Bool) : Is K H (.bl b) (.bl b)
  | str (z : Str) : Is K H (.str z) (.str z)
  | non : Is K H .non .non
  | lst {a : Addr} {xs : List V} (e : H a = some (.lst xs)) : Is K H (.ref a) (.lst a xs)
  | tup {a : Addr} {xs : List V} (e : H a = some (.tup xs)) : Is K H (.ref a) (.tup a xs)
  | dct {a : Addr} {kvs : List (Key × V)} (e : H a = some (.dK kvs)) : Is K H (.ref a) (.dct a kvs)
  | ins {a C dx : Addr} {fs : List (Str × V)} (e : H a = some (.ins C dx fs)) (c : OwnC K C) : Is K H (.ref a) (.ins a C)
theorem Is.same {K : Frag} {H H' : Hp} {x : V} {k : Kn} (h : Is K H x k) (s : Same H H') : Is K H' x k := by
  cases h with
  | int i => exact .int i
  | bl b => exact .bl b
  | str z => exact .str z
  | non => exact .non
  | lst e => exact .lst (s _ _ e)
  | tup e => exact .tup (s _ _ e)
  | dct e => exact .dct (s _ _ e)
  | ins e c => exact .ins (s _ _ e) c
def Kn.ty : Kn → Value
  | .int _ => .type "int"
  | .bl _ => .type "bool"
  | .str _ => .type "str"
  | .non => .type "NoneType"
  | .lst _ _ => .type "list"
  | .tup _ _ => .type "tuple"
  | .dct _ _ => .type "dict"
  | .ins _ C => .ref C
def Kn.isT : Kn → String → Bool
  | .int _, T => T == "int"
  | .bl _, T => T == "int" || T == "bool"
  | .str _, T => T == "str"
  | .non, _ => false
  | .lst _ _, T => T == "list"
  | .tup _ _, T => T == "tuple"
  | .dct _ _, T => T == "dict"
  | .ins _ _, _ => false
def Kn.isC : Kn → Addr → Bool
  | .ins _ C, D => decide (C = D)
  | _, _ => false
theorem Is.tyx {K : Frag} {H : Hp} {x : V} {k : Kn} (h : Is K H x k) : TyX K H x k.ty := by
  cases h with
  | int i => exact .base (.int i)
  | bl b => exact .base (.bl b)
  | str z => exact .base (.str z)
  | non => exact .base .non
  | lst e => exact .base (.lst e)
  | tup e => exact .base (.tup e)
  | dct e => exact .base (.dK e)
  | ins e c => exact .base (.ins e c.cl c.ha c.hn c.htk c.hm)
theorem kit6 {K : Frag} {k : String} {r : String → Bool} (h : ∀ T ∈ bTys, kitB k T = some (r T)) : ∀ T ∈ bTys, PySem.W.kitOne K (.type k) (.type T) = some (r T) := fun T hT => kit_ty (h T hT)
theorem Is.kit {K : Frag} {H : Hp} {x : V} {k : Kn} (h : Is K H x k) : ∀ T ∈ bTys, PySem.W.kitOne K k.ty (.type T) = some (k.isT T) := by
  cases h with
  | ins e c => exact c.kit
  | int i => exact kit6 (r := fun T => T == "int") (by decide +kernel)
  | bl i => exact kit6 (r := fun T => T == "int" || T == "bool") (by decide +kernel)
  | str i => exact kit6 (r := fun T => T == "str") (by decide +kernel)
  | non => exact kit6 (r := fun T => false) (by decide +kernel)
  | lst i => exact kit6 (r := fun T => T == "list") (by decide +kernel)
  | tup i => exact kit6 (r := fun T => T == "tuple") (by decide +kernel)
  | dct i => exact kit6 (r := fun T => T == "dict") (by decide +kernel)
/-- isinstance(x, T), T a built-in class -/
theorem isi (T : String) {K : Frag} {H : Hp} {x : V} {k : Kn} {Q : VK} (h : Is K H x k) (q : Q (.bl (k.isT T)) H) (hT : T ∈ bTys := by decide) : rIsi K [x, .ty T] H Q :=
  ⟨x, .ty T, _, _, _, rfl, .ty T, h.tyx, h.kit T hT, q⟩
theorem isiC {K : Frag} {H : Hp} {x : V} {k : Kn} {C : Addr} {Q : VK} (h : Is K H x k) (o : OwnK K C) (hd : ∀ a D, k = .ins a D → D ≠ C → PySem.W.kitOne K (.ref D) (.ref C) = some false) (q : Q (.bl (k.isC C)) H) : rIsi K [x, .ref C] H Q := by
  refine ⟨x, .ref C, k.ty, .ref C, k.isC C, rfl, .own C, h.tyx, ?_, q⟩
  cases h with
  | @ins a D dx fs e c =>
    show PySem.W.kitOne K (.ref D) (.ref C) = some (decide (D = C))
    by_cases z : D = C
    · subst z
      rw [decide_eq_true rfl]
      unfold PySem.W.kitOne
      rw [if_pos (by simp)]
    · rw [decide_eq_false z]
      exact hd a D rfl z
  | int i => exact o.kit _ (by decide)
  | bl i => exact o.kit _ (by decide)
  | str i => exact o.kit _ (by decide)
  | non => exact o.kit _ (by decide)
  | lst i => exact o.kit _ (by decide)
  | tup i => exact o.kit _ (by decide)
  | dct i => exact o.kit _ (by decide)
/-! constants of the module -/
theorem gint {mg : Str → Option Value} {x : Str} {i : Int} (h : ∃ t, mg x = some (.int i t)) : ∃ u, mg x = some u ∧ RelV (.int i) u := by
  obtain ⟨t, h⟩ := h
  exact ⟨_, h, ⟨t, rfl⟩⟩
theorem gstr {mg : Str → Option Value} {x z : Str} (h : ∃ t, mg x = some (.str z t)) : ∃ u, mg x = some u ∧ RelV (.str z) u := by
  obtain ⟨t, h⟩ := h
  exact ⟨_, h, ⟨t, rfl⟩⟩
theorem pe_gc {X : Cx} {x : Str} {pos : Pos} {v : V} (hg : Gl X x) (h : ∃ u, X.mg x = some u ∧ RelV v u) (hd : (x == ("__debug__" : Str)) = false := by decide) : PE X (.Name x pos) (tC v) := by
  obtain ⟨u, hm, r⟩ := h
  exact pe_glob hg hm r hd
theorem hu0 {A : Around} {k : Nat} (hr : Room k A) : A.units < cLine := hr.units0
theorem hu64 {A : Around} {k : Nat} (hr : Room k A) : A.units + 64 < cLine := hr.units
theorem pj_nil {X : Cx} : PJ X [] [] := .nil
theorem pj_cons {X : Cx} {e : Expr} {t : TE} {es : List Expr} {ts : List TE} (h : PE X e t) (r : PJ X es ts) : PJ X (e :: es) (t :: ts) := .cons h r
end Ah

/-! numbers and keys: the mathematics -/
namespace Ah
open PySem PySem.Spec PyProof.Rows L2 He
def Kn.within (k : Kn) (a b : Int) : Bool := match k with
  | .int i => decide (a ≤ i) && decide (i ≤ b)
  | _ => false
/-- a sign of a key -/
def keySign (c : Nat) : Bool := (decide (97 ≤ c) && decide (c ≤ 122)) || (decide (48 ≤ c) && decide (c ≤ 57))
def isKeyL (l : List Nat) : Bool := decide (1 ≤ l.length) && decide (l.length ≤ 20) && l.all keySign
def Kn.isKey : Kn → Bool
  | .str z => isKeyL z.cps.toList
  | _ => false
/-- a text within the line -/
def Kn.small : Kn → Prop
  | .str z => z.length ≤ 1000000
  | _ => True
end Ah

/-! own rules: ==, != by an own __eq__, repr by an own __repr__, a call of an instance, text * int -/
namespace Ah
open PySem PySem.Spec PyProof.Rows L2 He
theorem FnB.raw {P : Program} {w : World} {K : Frag} {mg : Str → Option Value} {base : Heap} {k : Nat} {f : Addr} {sp : Sp} (F : FnB P w K mg base k f sp) : FnR P w K mg base (L2.CX P w) k f sp := by
  obtain ⟨⟨fd, ps, G, b⟩, kp⟩ := F
  have h := G.raw b (dvs := []) .nil
  intro A outer s H us vs Q E hr e0 r hs
  exact h A outer s H us vs Q E hr e0 r (by show sp (vs ++ []) H Q E; rw [List.append_nil]; exact hs)
section
variable {X : Cx} {k j : Nat} {f C : Addr} {sp : Sp} {E : XK} {pins : List (Addr × Obj)} {σ : L2.St} {H : Hp} {s : Shared}
theorem looks_kn {x : V} {u : Value} {k : Kn} (I : Inv X pins σ H s) (r : RelV x u) (h : Is X.K H x k) (M : Model) : PySem.W.Looks M s.heap (typeOf u) k.ty := by
  obtain ⟨P, kx, p, _⟩ := kit_of I r h.tyx
  exact kx.ty M s.heap I.kIn p
/-- what == by an own __eq__ asks: x an instance of C, y of any kind, not of a class below C -/
def rEqO (K : Frag) (C : Addr) (sp : Sp) (E : XK) : R2 := fun x y H Q => ∃ a dx fs k, x = .ref a ∧ H a = some (.ins C dx fs) ∧ Is K H y k ∧ PySem.W.notFirst K C k.ty = true ∧ sp [x, y] H (fun z H' => ∃ b, z = .bl b ∧ Q (.bl b) H') E
theorem op_eqO (hm : Meth X.K C "__eq__" f) (F : FnB X.prog X.w X.K X.mg X.base k f sp) (hr : Room j X.A) (hx : Passes (L2.CX X.prog X.w) X E) (hk : k ≤ j := by decide) : OpR X (compareOp .Eq) (rEqO X.K C sp E) := by
  intro pins s σ H x y v u Q I rx ry h
  obtain ⟨a, dx, fs, kn, rfl, ha, hy, hn, q⟩ := h
  cases (show v = Value.ref a from rx)
  obtain ⟨mA, O, _⟩ := ins_get I.hok ha
  obtain ⟨od, J, _⟩ := O.look
  obtain ⟨m, hF⟩ := I.fr
  refine PySem.W.cmp_K (op := .Eq) (tb := kn.ty) hr.units0 hF I.ok.mod.kin J (looks_kn I ry hy _) hn hm.at_ hm.fn ?_
  refine wpAny_mono (wpAny_call (run_fnR (us := [.ref a, u]) (vs := [.ref a, y]) F.raw (hr.mono hk) hx I (.cons rfl (.cons ry .nil)) q)) (fun w s' z => ?_) fun _ _ x => x
  obtain ⟨z', H', I', rz, b, eb, qz⟩ := z
  subst eb
  cases (show w = Value.bool b from rz)
  exact ⟨.bl b, H', I', rfl, qz⟩
/-- != by an own __eq__ -/
theorem ne_K {prog : Program} {w : World} {A : Around} {E : Value → Shared → Prop} {s : Shared} {K : Frag} {x C L f : Addr} {h₀ : Heap} {m : Str → Option Value} {ox : Obj} {od : Option Obj} {b tb : Value} {Q : Value → Shared → Prop}
    (hu : A.units + 1 < cLine) (F : Fr h₀ L s.heap m) (X₀ : K.In h₀) (I : PySem.W.InstAt s.heap x ox C od) (hb : PySem.W.Looks (model prog w) s.heap (typeOf b) tb) (hn : PySem.W.notFirst K C tb = true)
    (hne : PySem.W.findIn K (.ref C) "__ne__" = some (some (.builtin "object.__ne__"))) (hcl : PySem.W.excInitIn K C [.type "object"] "object.__new__" = true)
    (hs : PySem.W.findIn K (.ref C) "__eq__" = some (some (.ref f))) (hf : PySem.W.isFn K (.ref f) = true)
    (h : wpAny (model prog w) A.in1 (call (.ref f) [.ref x, b]) (fun v s' => ∃ c, v = .bool c ∧ Q (.bool (!c)) s') E s) : wpAny (model prog w) A (richCompare .NotEq (.ref x) b) Q E s := by
  have X := X₀.keeps F.keep
  have one : wpAny (model prog w) A (tryCompare (.ref x) "__ne__" b) (fun r s' => ∃ v, r = some v ∧ Q v s') E s := by
    unfold tryCompare
    refine wpAny_bind (m := callSpecialIfBound? (.ref x) "__ne__" [b]) ?_
    simp only [callSpecialIfBound?, bindSpecialIfBound?]
    refine wpAny_holding (wpAny_bind (wpAny_bind (wpAny_bind (I.type.here ((PySem.W.looks_findIn X hne).here ?_)))))
    refine wpAny_bind (wpAny_askSetting (wpAny_ite ?_))
    have bnd : bindSpecial (.builtin "object.__ne__") (.ref x) = pure (.builtin "object.__ne__", [.ref x]) := PySem.F.cmp_object.ne.bind _
    have fin : wpAny (model prog w) A (call (.builtin "object.__ne__") ([.ref x] ++ [b]) >>= fun v => pure (some v)) (fun r s' => wpAny (model prog w) A (match r with
        | some .notImplemented | none => pure none
        | some v => pure (some v)) (fun r s' => ∃ v, r = some v ∧ Q v s') E s') E s := by
      refine wpAny_bind (wpAny_call (codeAny_call_builtin PySem.F.cmp_object.ne.plain PySem.F.cmpEntry_ne ?_))
      obtain ⟨nm, N, qn, bs, bm, hdct, sn, sub, ab, col, dd, k0, k1, k2, k3, k5, hC, hbm⟩ := PySem.W.excInit_of X hcl
      have hob : bm.contains (.type "object") = true := by rw [hbm]; decide +kernel
      obtain ⟨hp, gg, dr, tk, os⟩ := s
      refine wpAny_check_slot_inst PySem.F.cmpKind_ne PySem.F.cmpSplit_ne (PySem.F.cmpArgs_ne _ _) hob I.at_ I.cls hC ?_
      unfold Builtin.«object.__ne__»
      repeat (first
        | with_reducible refine wpAny_cRoomFor hu ?_
        | (refine wpAny_bind (m := callSpecialIfBound? (.ref x) (Str.ofString "__eq__") [b])
            (PySem.W.ifBound_K X I hs hf (wpAny_mono h (fun r s' hr => by
              obtain ⟨c, rfl, hq⟩ := hr
              repeat (first | exact ⟨_, rfl, hq⟩ | exact wpAny_pure ⟨_, rfl, hq⟩ | exact wpAny_pure (wpAny_pure ⟨_, rfl, hq⟩) | exact wpAny_truthy_bool hq | (refine wpAny_bind (m := truthy (.bool _)) (wpAny_truthy_bool ?_)) | wp_step)) fun _ _ e => e)))
        | wp_step)
    split
    · simp only [bnd]
      exact wpAny_bind (wpAny_pure (wpAny_pure fin))
    · simp only [bnd]
      exact wpAny_tryCatch (wpAny_bind (wpAny_pure (wpAny_pure fin)))
  unfold richCompare
  simp only [oneThing_ref]
  refine wpAny_holding (wpAny_bind (wpAny_cRoomFor (Nat.lt_of_succ_lt hu) ?_))
  refine wpAny_bind (I.type.here (wpAny_bind (hb.here ?_)))
  split
  · rename_i q
    have e : PySem.W.subIn K tb (.ref C) = some false := by
      rcases Bool.or_eq_true_iff.mp hn with e | e
      · rw [beq_iff_eq.mp e] at q; simp at q
      · exact beq_iff_eq.mp e
    refine wpAny_bind ((PySem.W.looks_subIn X e).here ?_)
    simp only [Bool.false_eq_true, if_false]
    refine wpAny_bind (wpAny_mono one (fun r s' z => ?_) fun _ _ e => e)
    obtain ⟨v, rfl, hq⟩ := z
    exact wpAny_pure hq
  · refine wpAny_bind (wpAny_pure ?_)
    simp only [Bool.false_eq_true, if_false]
    refine wpAny_bind (wpAny_mono one (fun r s' z => ?_) fun _ _ e => e)
    obtain ⟨v, rfl, hq⟩ := z
    exact wpAny_pure hq
/-- the class has no __ne__ of its own -/
structure NoNe (K : Frag) (C : Addr) : Prop where
  ne : PySem.W.findIn K (.ref C) "__ne__" = some (some (.builtin "object.__ne__"))
  cl : PySem.W.excInitIn K C [.type "object"] "object.__new__" = true
def rNeO (K : Frag) (C : Addr) (sp : Sp) (E : XK) : R2 := fun x y H Q => ∃ a dx fs k, x = .ref a ∧ H a = some (.ins C dx fs) ∧ Is K H y k ∧ PySem.W.notFirst K C k.ty = true ∧ sp [x, y] H (fun z H' => ∃ b, z = .bl b ∧ Q (.bl (!b)) H') E
theorem op_neO (hm : Meth X.K C "__eq__" f) (hne : NoNe X.K C) (F : FnB X.prog X.w X.K X.mg X.base k f sp) (hr : Room j X.A) (hx : Passes (L2.CX X.prog X.w) X E) (hk : k + 1 ≤ j := by decide) : OpR X (compareOp .NotEq) (rNeO X.K C sp E) := by
  intro pins s σ H x y v u Q I rx ry h
  obtain ⟨a, dx, fs, kn, rfl, ha, hy, hn, q⟩ := h
  cases (show v = Value.ref a from rx)
  obtain ⟨mA, O, _⟩ := ins_get I.hok ha
  obtain ⟨od, J, _⟩ := O.look
  obtain ⟨m, hF⟩ := I.fr
  have hr1 : Room (k + 1) X.A := hr.mono hk
  refine ne_K (tb := kn.ty) (hu_of hr) hF I.ok.mod.kin J (looks_kn I ry hy _) hn hne.ne hne.cl hm.at_ hm.fn ?_
  refine wpAny_mono (wpAny_call (SlX.run_at (us := [.ref a, u]) (ws := [.ref a, y]) F.raw hr1.in1 I.env0.in1 hx I (.cons rfl (.cons ry .nil)) q)) (fun w s' z => ?_) fun _ _ x => x
  obtain ⟨z', H', I', rz, b, eb, qz⟩ := z
  subst eb
  cases (show w = Value.bool b from rz)
  exact ⟨b, rfl, .bl (!b), H', I', rfl, qz⟩
/-- repr(x), x an instance of C with its own __repr__ -/
def rRepr (C : Addr) (sp : Sp) (E : XK) : List V → Hp → VK → Prop := fun xs H Q => ∃ a dx fs, xs = [.ref a] ∧ H a = some (.ins C dx fs) ∧ sp [.ref a] H (fun z H' => ∃ y, z = .str y ∧ Q (.str y) H') E
theorem call_reprO (hm : Meth X.K C "__repr__" f) (G : FnB X.prog X.w X.K X.mg X.base k f sp) (hr : Room j X.A) (hx : Passes (L2.CX X.prog X.w) X E) (hk : k + 1 ≤ j := by decide) : CallR X (.builtin "repr") (rRepr C sp E) := by
  intro pins s σ H xs us Q I r h
  obtain ⟨a, dx, fs, rfl, ha, q⟩ := h
  obtain ⟨u, rfl, ru⟩ := r.one
  cases (show u = Value.ref a from ru)
  obtain ⟨mA, O, _⟩ := ins_get I.hok ha
  obtain ⟨od, J, _⟩ := O.look
  have hr1 : Room (k + 1) X.A := hr.mono hk
  refine Calls.call_function_entry F.kind_repr F.plain_repr F.entry_repr (F.args_repr1 _) ?_
  unfold Builtin.«repr»
  refine wpAny_bind (m := oneArg "repr" _) (wpAny_pure ?_)
  refine wpAny_bind (wpAny_cRoomFor (by exact hu_of hr) ?_)
  refine wpAny_bind (wpAny_bind (J.type.here ((PySem.W.looks_findIn I.kIn hm.at_).here ?_)))
  refine wpAny_bind (m := callSpecialIfBound? (.ref a) (Str.ofString "__repr__")) (PySem.W.ifBound_K I.kIn J hm.at_ hm.fn (wpAny_mono (wpAny_call (SlX.run_at (us := [.ref a]) (ws := [.ref a]) G.raw hr1.in1 I.env0.in1 hx I (.cons rfl .nil) q)) (fun w s' z => ?_) fun _ _ x => x))
  obtain ⟨z', H', I', rz, y, ey, qz⟩ := z
  subst ey
  obtain ⟨t, e⟩ := (show ∃ t, w = Value.str y t from rz)
  subst e
  refine wpAny_bind (wpAny_isInstance (T := "str") (b := true) rfl isSubtype_str_str ?_)
  exact wpAny_pure ⟨_, rfl, .str y, H', I', ⟨t, rfl⟩, qz⟩
/-- f(e, ..), f a slot that holds an instance of C with its own __call__ -/
def tCoF (C : Addr) (sp : Sp) (E : XK) (tf : TE) (t : TA) : TE := fun σ H Q => tf σ H fun y H1 => ∃ a, y = V.ref a ∧ t σ H1 fun vs H2 => (∃ dx fs, H2 a = some (.ins C dx fs)) ∧ sp (V.ref a :: vs) H2 Q E
theorem pe_coF {fe e : Expr} {es : List Expr} {tf : TE} {t : TA} {pos : Pos} (hf : PE X fe tf) (hm : Meth X.K C "__call__" f) (hi : PySem.W.fnIn X.K f = true) (G : FnB X.prog X.w X.K X.mg X.base k f sp) (hr : Room j X.A) (hx : Passes (L2.CX X.prog X.w) X E) (ha : PA X (e :: es) t) (hk : k ≤ j := by decide)
    (ht : eval (.Call fe (e :: es) [] pos) X.env = (do callWith pos (← eval fe X.env) [] (backTo pos (starEach (e :: es) X.env)) (backToKw pos (keywordEach [] X.env))) := by rfl)
    (he : starEach (e :: es) X.env = (false, eval e X.env) :: starEach es X.env := by rfl) (hpl : (backTo pos (starEach es X.env)).any (·.1) = false := by rfl) : PE X (.Call fe (e :: es) [] pos) (tCoF C sp E tf t) := by
  refine ⟨fun pins s σ H Q I h => ?_⟩
  refine Call_ (thn (hf.run pins s σ H _ I h) fun u s1 ⟨y, H1, I1, ry, a, ey, q⟩ => ?_) ht
  subst ey
  cases (show u = Value.ref a from ry)
  refine StX.callO_with (thn (ha.run pos pins s1 σ H1 _ I1 q) fun us s2 ⟨vs, H2, I2, r, ⟨dx, fs, hi2⟩, q2⟩ => ?_) he hpl
  obtain ⟨ox, od, J, hd⟩ := StX.insC_at (C := C) I2 (.inr ⟨dx, fs, hi2⟩)
  exact ⟨⟨C, ox, od, J, hd⟩, StX.run_callO ⟨hm.at_, hm.fn, hi⟩ G.raw (hr.mono hk) hx I2 (.inr ⟨dx, fs, hi2⟩) r q2⟩
/-- text * int -/
def rMulS : R2 := fun x y H Q => ∃ (z : Str) (n : Nat), x = .str z ∧ y = .int n ∧ z.length * n ≤ 1000000 ∧ z.length ≤ 1000000 ∧ n ≤ 1000000 ∧ Q (.str (Txt.mul z n)) H
theorem op_rep_str : OpR X (binaryOp .Mult) rMulS := by
  intro pins s σ H x y v u Q I rx ry h
  obtain ⟨z, n, rfl, rfl, h1, h2, h3, q⟩ := h
  obtain ⟨t, e⟩ := (show ∃ t, v = Value.str z t from rx)
  obtain ⟨t', e'⟩ := (show ∃ t, u = Value.int n t from ry)
  subst e
  subst e'
  refine SB.mul ⟨?_, ?_, ?_⟩ fun t' k => ⟨.str _, H, I.tok _, ⟨_, rfl⟩, q⟩
  · have a1 : ¬ ((n : Int) < -(2 ^ 63 : Int)) := by omega
    have a2 : ¬ ((n : Int) ≥ 2 ^ 63) := by omega
    rw [decide_eq_false a1, decide_eq_false a2]
    rfl
  · intro _ _ hgt
    have h4 : (1000000 : Int) ≤ (2 ^ 63 - 1) / (n : Int) := by
      refine Int.le_ediv_of_mul_le (by omega) ?_
      have : (1000000 : Int) * n ≤ 1000000 * 1000000 := Int.mul_le_mul_of_nonneg_left (by omega) (by omega)
      omega
    omega
  · intro _ _
    show decide (z.length * (n : Int).toNat > sizeLine) = false
    rw [Int.toNat_natCast]
    exact decide_eq_false (by rw [sizeLine_eq]; omega)
end
end Ah

/-! more facts for the head -/
namespace Ah
open PySem PySem.Spec PyProof.Rows L2 He
def all7 : List String := ["NoneType", "int", "bool", "str", "list", "tuple", "dict"]
def ownCB (C : Str) (K : Frag) : Bool :=
  eqO (PySem.W.findIn K (.ref (ga K C)) "__class__") (some (some (.builtin "object.__class__"))) &&
  (eqO (PySem.W.specialIn K (.builtin "object.__class__") "__get__") (some (some (.builtin "getset_descriptor.__get__"))) &&
  (decide (PySem.W.takesIn K (.builtin "object.__class__") = some true) && (decide (PySem.W.mroIn K (ga K C) (.type "object") = some true) &&
  (bTys.all fun T => decide (PySem.W.kitOne K (.ref (ga K C)) (.type T) = some false)))))
theorem ownC_ok {C : Str} {K : Frag} (c : Cls K (ga K C)) (h : ownCB C K = true) : OwnC K (ga K C) := by
  unfold ownCB at h
  obtain ⟨h1, h⟩ := ba h
  obtain ⟨h2, h⟩ := ba h
  obtain ⟨h3, h⟩ := ba h
  obtain ⟨h4, h⟩ := ba h
  exact ⟨c, eqO_ok h1, eqO_ok h2, of_decide_eq_true h3, of_decide_eq_true h4, fun T hT => of_decide_eq_true (List.all_eq_true.mp h T hT)⟩
def ownKB (C : Str) (K : Frag) : Bool := all7.all fun T => decide (PySem.W.kitOne K (.type T) (.ref (ga K C)) = some false)
theorem ownK_ok {C : Str} {K : Frag} (h : ownKB C K = true) : OwnK K (ga K C) := ⟨fun T hT => of_decide_eq_true (List.all_eq_true.mp h T hT)⟩
def firstB (C : Str) (K : Frag) : Bool := all7.all fun T => PySem.W.notFirst K (ga K C) (.type T)
theorem first_ok {C : Str} {K : Frag} (h : firstB C K = true) : ∀ T ∈ all7, PySem.W.notFirst K (ga K C) (.type T) = true := fun T hT => List.all_eq_true.mp h T hT
def noNeB (C : Str) (K : Frag) : Bool := eqO (PySem.W.findIn K (.ref (ga K C)) "__ne__") (some (some (.builtin "object.__ne__"))) && PySem.W.excInitIn K (ga K C) [.type "object"] "object.__new__"
theorem noNe_ok {C : Str} {K : Frag} (h : noNeB C K = true) : NoNe K (ga K C) := by
  obtain ⟨h1, h2⟩ := ba h
  exact ⟨eqO_ok h1, h2⟩
def fnInB (C m : Str) (K : Frag) : Bool := PySem.W.fnIn K (ma K (ga K C) m)
/-- a value that is no instance, or one of the class C itself, does not come first in a comparison with an instance of C -/
theorem first_of {K : Frag} {H : Hp} {C : Addr} {x : V} {k : Kn} (hf : ∀ T ∈ all7, PySem.W.notFirst K C (.type T) = true) (h : Is K H x k) (hC : ∀ a D, k = .ins a D → D = C) : PySem.W.notFirst K C k.ty = true := by
  cases h with
  | @ins a D dx fs e c =>
    cases hC a D rfl
    simp [Kn.ty, PySem.W.notFirst]
  | int i => exact hf _ (by decide)
  | bl i => exact hf _ (by decide)
  | str i => exact hf _ (by decide)
  | non => exact hf _ (by decide)
  | lst i => exact hf _ (by decide)
  | tup i => exact hf _ (by decide)
  | dct i => exact hf _ (by decide)
/-! heaps -/
/-- all but a stands as it stood -/
def Ex (a : Addr) (H H' : Hp) : Prop := ∀ b o, b ≠ a → H b = some o → H' b = some o
theorem Ex.refl {a : Addr} {H : Hp} : Ex a H H := fun _ _ _ h => h
theorem Ex.of_same {a : Addr} {H H' : Hp} (s : Same H H') : Ex a H H' := fun b o _ h => s b o h
theorem Ex.trans {a : Addr} {H H1 H2 : Hp} (x : Ex a H H1) (y : Ex a H1 H2) : Ex a H H2 := fun b o n h => y b o n (x b o n h)
theorem Ex.upd {a : Addr} {H H' : Hp} {o : HO} (x : Ex a H H') : Ex a H (L2.upd H' a o) := fun b o' n h => by
  rw [upd_ne n]
  exact x b o' n h
theorem Ex.new {a p : Addr} {H H' : Hp} {o : HO} (x : Ex a H H') (hp : H' p = none) : Ex a H (L2.upd H' p o) := fun b o' n h => upd_keep (x b o' n h) hp
/-- a new place stays new behind -/
theorem Ex.same_free {a : Addr} {H H1 H2 : Hp} (s : Same H H1) (ha : H a = none) (x : Ex a H1 H2) : Same H H2 := fun b o h => x b o (ne_of_none h ha) (s b o h)
end Ah

/-! comprehensions and loops -/
namespace Ah
open PySem PySem.Spec PyProof.Rows L2 He
theorem range_map_succ {α : Type} (f : Nat → α) (n : Nat) : (List.range (n + 1)).map f = (List.range n).map f ++ [f n] := by
  rw [List.range_succ, List.map_append]
  rfl
/-- a comprehension whose element hands back a value and changes nothing that stood: [f 0, .., f (n - 1)] -/
theorem lc_pure {J : It} {n : Nat} {G : Hp → Prop} {Y : Nat → Hp → V → Hp → Prop} (w : Walk J n G Y) {k : Nat} {te : TE} {vs : List Nat} {σ : L2.St} {H1 : Hp} {Qd : Hp → Prop} {D : Addr} (f it : Nat → V) (hn : n ≤ 1000000) (hD : H1 D = none)
    (hG : ∀ H', Same H1 H' → G H') (hY : ∀ i H x H', i < n → Y i H x H' → H' = H ∧ x = it i) (hw : ∀ i, wipe ((wipe σ vs).set k (some (it i))) vs = wipe σ vs)
    (he : ∀ i, i < n → ∀ H' Q', Same H1 H' → (∀ H'', Same H' H'' → Q' (f i) H'') → te ((wipe σ vs).set k (some (it i))) H' Q')
    (hq : ∀ H', Same H1 H' → H' D = some (.lst ((List.range n).map f)) → Qd H') :
    ∃ W : Nat → Nat → Hp → Prop, (∃ m, W 0 m (upd H1 D (.lst []))) ∧ ∀ i m H, W i m H →
      (J.stop i H ∧ Qd H) ∨ (J.go i H ∧ ∃ Nx : Hp → Prop, (∀ H', Nx H' → ∃ m', m' < m ∧ W (i + 1) m' H') ∧ ∀ x H', J.yld i H x H' → gName k x (wipe σ vs) H' fun σ2 H2 => wipe σ2 vs = wipe σ vs ∧ tYes σ2 H2 fun b H3 =>
        if b = true then te σ2 H3 fun y H4 => ∃ acc, H4 D = some (.lst acc) ∧ acc.length < sizeLine ∧ Nx (upd H4 D (.lst (acc ++ [y]))) else Nx H3) := by
  refine lc_it w (fun i H' => Same H1 H' ∧ H' D = some (.lst ((List.range i).map f))) ⟨fun b o e => upd_keep e hD, upd_same⟩ (fun i H' _ p => hG H' p.1) ?_ fun H' p => hq H' p.1 p.2
  intro i x H H' hi p y
  obtain ⟨rfl, rfl⟩ := hY i H x H' hi y
  refine ⟨hw i, ?_⟩
  dsimp only [tYes]
  rw [if_pos rfl]
  refine he i hi _ _ p.1 fun H'' s => ⟨_, s _ _ p.2, ?_, ?_, ?_⟩
  · rw [List.length_map, List.length_range, sizeLine_eq]
    omega
  · intro b o e
    rw [upd_ne (ne_of_none e hD)]
    exact s b o (p.1 b o e)
  · rw [upd_same, range_map_succ]
theorem yStr {z : Str} (i : Nat) (H : Hp) (x : V) (H' : Hp) (y : H' = H ∧ ∃ c, z.cps[i]? = some c ∧ x = .str ⟨#[c]⟩) : H' = H ∧ x = .str ⟨#[z.cps.toList.getD i 0]⟩ := by
  obtain ⟨e, c, hc, rfl⟩ := y
  refine ⟨e, ?_⟩
  have : z.cps.toList[i]? = some c := by simpa using hc
  rw [List.getD_eq_getElem?_getD, this]
  rfl
theorem map_getD_range {α β : Type} (l : List α) (d : α) (g : α → β) : (List.range l.length).map (fun i => g (l.getD i d)) = l.map g := by
  apply List.ext_getElem?
  intro i
  rw [List.getElem?_map, List.getElem?_map]
  by_cases h : i < l.length
  · rw [List.getElem?_range h]
    simp [List.getD_eq_getElem?_getD, h]
  · simp [h]
/-- a new list of values: the walk over a text -/
theorem cps_len (z : Str) : z.cps.size = z.cps.toList.length := by simp
end Ah
namespace Ah
open PySem PySem.Spec PyProof.Rows L2 He
/-! keys -/
def chars : Str := "abcdefghijklmnopqrstuvwxyz0123456789"
def charsL : List Nat := [97, 98, 99, 100, 101, 102, 103, 104, 105, 106, 107, 108, 109, 110, 111, 112, 113, 114, 115, 116, 117, 118, 119, 120, 121, 122, 48, 49, 50, 51, 52, 53, 54, 55, 56, 57]
theorem chars_eq : chars.cps.toList = charsL := by decide +kernel
theorem charsL_small : ∀ c, c < 128 → decide (c ∈ charsL) = keySign c := by decide +kernel
theorem charsL_max : ∀ c ∈ charsL, c < 128 := by decide +kernel
theorem chars_mem (c : Nat) : decide (c ∈ chars.cps.toList) = keySign c := by
  rw [chars_eq]
  by_cases h : c < 128
  · exact charsL_small c h
  · rw [decide_eq_false fun z => h (charsL_max c z)]
    unfold keySign
    rw [decide_eq_false (by omega : ¬ c ≤ 122), decide_eq_false (by omega : ¬ c ≤ 57)]
    simp
theorem str_len (z : Str) : z.length = z.cps.toList.length := by simp [Str.length]
/-- the mix of a key -/
def mixL (b n : Int) (l : List Nat) : Int := l.foldl (fun (h : Int) (c : Nat) => (h * b + (c : Int)) % 2 ^ n.toNat) 0
theorem mixL_snoc (b n : Int) (l : List Nat) (c : Nat) : mixL b n (l ++ [c]) = (mixL b n l * b + (c : Int)) % 2 ^ n.toNat := by
  unfold mixL
  rw [List.foldl_append]
  rfl
theorem pow_pos2 (n : Nat) : (0 : Int) < 2 ^ n := by
  have h : (0 : Int) < ((2 ^ n : Nat) : Int) := Int.natCast_pos.mpr (Nat.two_pow_pos n)
  rw [Int.natCast_pow] at h
  exact h
theorem mixL_range (b n : Int) (l : List Nat) : 0 ≤ mixL b n l ∧ mixL b n l < 2 ^ n.toNat := by
  rcases List.eq_nil_or_concat l with h | ⟨m, c, h⟩
  · subst h
    exact ⟨Int.le_refl 0, pow_pos2 _⟩
  · rw [List.concat_eq_append] at h
    subst h
    rw [mixL_snoc]
    exact ⟨Int.emod_nonneg _ (Int.ne_of_gt (pow_pos2 _)), Int.emod_lt_of_pos _ (pow_pos2 _)⟩
theorem pow32 {n : Int} (h : n ≤ 32) : (2 : Int) ^ n.toNat ≤ 4294967296 := by
  have h1 : n.toNat ≤ 32 := by omega
  have h2 : (2 ^ n.toNat : Nat) ≤ 2 ^ 32 := Nat.pow_le_pow_right (by decide) h1
  have h3 : ((2 ^ n.toNat : Nat) : Int) ≤ ((2 ^ 32 : Nat) : Int) := Int.ofNat_le.mpr h2
  rw [Int.natCast_pow] at h3
  exact h3
theorem take_more {α : Type} {l : List α} {i : Nat} {x : α} (h : l[i]? = some x) : l.take (i + 1) = l.take i ++ [x] := by
  rw [List.take_succ, h]
  rfl
theorem key_small {z : Str} (h : isKeyL z.cps.toList = true) : (Kn.str z).small := by
  unfold isKeyL at h
  show z.length ≤ 1000000
  rw [str_len]
  simp at h
  rw [Array.length_toList]
  omega
end Ah

/-! fields, pools -/
namespace Ah
open PySem PySem.Spec PyProof.Rows L2 He
theorem look0 {f : Str} {v : V} {r : List (Str × V)} : List.lookup f ((f, v) :: r) = some v := by simp [List.lookup]
theorem lookS {f g : Str} {w : V} {r : List (Str × V)} (h : f ≠ g) : List.lookup f ((g, w) :: r) = List.lookup f r := by
  have e : (f == g) = false := by simpa using h
  simp [List.lookup, e]
theorem putF0 {f : Str} {v : V} : putF f v [] = [(f, v)] := rfl
theorem putF_hit {f : Str} {v w : V} {r : List (Str × V)} : putF f v ((f, w) :: r) = (f, v) :: r := by
  show (if f = f then _ else _) = _
  rw [if_pos rfl]
theorem putFS {f g : Str} {v w : V} {r : List (Str × V)} (h : g ≠ f) : putF f v ((g, w) :: r) = (g, w) :: putF f v r := by
  show (if g = f then _ else _) = _
  rw [if_neg h]
end Ah
namespace Ah
open PySem PySem.Spec PyProof.Rows L2 He
theorem ixL {K : Frag} {H : Hp} {a : Addr} {xs : List V} {i : Int} {v : V} {Q : VK} (h : SqL K H a xs) (e : atI xs i = some v) (q : Q v H) : rIxL K (.ref a) (.int i) H Q := ⟨a, xs, i, v, rfl, rfl, h, e, q⟩
theorem ixT {K : Frag} {H : Hp} {a : Addr} {xs : List V} {i : Int} {v : V} {Q : VK} (h : SqT K H a xs) (e : atI xs i = some v) (q : Q v H) : rIxT K (.ref a) (.int i) H Q := ⟨a, xs, i, v, rfl, rfl, h, e, q⟩
theorem setL {H : Hp} {a : Addr} {xs : List V} {i : Int} {j : Nat} {v : V} {Q : Hp → Prop} (h : H a = some (.lst xs)) (e : ixN xs.length i = some j) (q : Q (upd H a (.lst (xs.set j v)))) : rSetL (.ref a) (.int i) v H Q := ⟨a, xs, i, j, rfl, rfl, h, e, q⟩
theorem head_int (l : List Int) : ∃ i, atI (l.map V.int ++ [V.int 0]) 0 = some (V.int i) := by
  cases l with
  | nil => exact ⟨0, rfl⟩
  | cons x r =>
    refine ⟨x, ?_⟩
    unfold atI
    have e : ixN ((List.map V.int (x :: r) ++ [V.int 0]).length) 0 = some 0 := by
      simp [ixN]
      omega
    rw [e]
    rfl
theorem cutV_int (l : List Int) (lo hi : Option Int) : ∃ l' : List Int, cutV (l.map V.int) lo hi = l'.map V.int ∧ l'.length ≤ l.length := by
  refine ⟨(l.drop (HT.sIx (l.map V.int).length 0 lo)).take (HT.sIx (l.map V.int).length (l.map V.int).length hi - HT.sIx (l.map V.int).length 0 lo), ?_, ?_⟩
  · unfold cutV
    rw [List.map_take, List.map_drop]
  · rw [List.length_take, List.length_drop]
    omega
end Ah

/-! data compared -/
namespace Ah
open PySem PySem.Spec PyProof.Rows L2 He
theorem neD_same {K : Frag} {H : Hp} {x y : V} {Q : VK} (d : PyData) (hx : Dp K H x d) (hy : Dp K H y d) (hs : SeqAt.shaped d = true) (q : Q (.bl false) H) : rNeD K x y H Q := by
  refine ⟨d, d, hx, hy, hs, hs, ?_⟩
  rw [SeqAt.eqv_refl d (SeqAt.canLay_of_shaped hs)]
  exact q
theorem eqD_same {K : Frag} {H : Hp} {x y : V} {Q : VK} (d : PyData) (hx : Dp K H x d) (hy : Dp K H y d) (hs : SeqAt.shaped d = true) (q : Q (.bl true) H) : rEqD K x y H Q := by
  refine ⟨d, d, hx, hy, hs, hs, ?_⟩
  rw [SeqAt.eqv_refl d (SeqAt.canLay_of_shaped hs)]
  exact q
theorem dpInts {K : Frag} {H : Hp} : ∀ ns : List Int, DpAll K H (ns.map V.int) (ns.map PyData.int)
  | [] => .nil
  | n :: r => .cons (.int n) (dpInts r)
theorem shaped_ints (ns : List Int) : SeqAt.shaped (.list (ns.map PyData.int)) = true := by
  have h1 : ∀ ns : List Int, PyData.canLayAll0 (ns.map PyData.int) = true := by
    intro ns
    induction ns with
    | nil => rfl
    | cons n r ih => exact Bool.and_eq_true_iff.mpr ⟨rfl, ih⟩
  have h2 : ∀ ns : List Int, PyData.depthAll (ns.map PyData.int) = 0 := by
    intro ns
    induction ns with
    | nil => rfl
    | cons n r ih =>
      show max 0 (PyData.depthAll (r.map PyData.int)) = 0
      rw [ih]
      rfl
  refine Bool.and_eq_true_iff.mpr ⟨h1 ns, decide_eq_true ?_⟩
  show PyData.depthAll (ns.map PyData.int) + 1 ≤ 64
  rw [h2]
  decide
/-- two lists of the same ints -/
theorem neInts {K : Frag} {H : Hp} {p r : Addr} {Q : VK} (ns : List Int) (h1 : H p = some (.lst (ns.map V.int))) (h2 : H r = some (.lst (ns.map V.int))) (q : Q (.bl false) H) : rNeD K (.ref p) (.ref r) H Q :=
  neD_same (.list (ns.map PyData.int)) (.lst (SqL.of h1) (dpInts ns)) (.lst (SqL.of h2) (dpInts ns)) (shaped_ints ns) q
theorem strOk_key {z : Str} (h : isKeyL z.cps.toList = true) : PyData.strOk z = true := by
  unfold isKeyL at h
  have h3 := (Bool.and_eq_true_iff.mp h).2
  unfold PyData.strOk
  rw [← Array.all_toList]
  refine List.all_eq_true.mpr fun c hc => ?_
  have := List.all_eq_true.mp h3 c hc
  unfold keySign at this
  simp at this
  exact decide_eq_true (by omega)
/-- two tuples of one int and one text -/
theorem nePlace {K : Frag} {H : Hp} {p r : Addr} {Q : VK} {i : Int} {z : Str} (hz : PyData.strOk z = true) (h1 : H p = some (.tup [.int i, .str z])) (h2 : H r = some (.tup [.int i, .str z])) (q : Q (.bl false) H) : rNeD K (.ref p) (.ref r) H Q := by
  refine neD_same (.tuple [.int i, .str z]) (.tup (SqT.of h1) (.cons (.int i) (.cons (.str z) .nil))) (.tup (SqT.of h2) (.cons (.int i) (.cons (.str z) .nil))) ?_ q
  refine Bool.and_eq_true_iff.mpr ⟨?_, decide_eq_true (show max 0 (max 0 0) + 1 ≤ 64 by decide)⟩
  show (true && (PyData.strOk z && true)) = true
  rw [hz]
  rfl
end Ah
namespace Ah
open PySem PySem.Spec PyProof.Rows L2 He
theorem iteF' {c : Bool} {A B : Prop} (h : c = false) (hb : B) : if c = true then A else B := by
  rw [h]
  exact iteF hb
theorem iteT' {c : Bool} {A B : Prop} (h : c = true) (ha : A) : if c = true then A else B := by
  rw [h]
  exact iteT ha
/-- a pool of a law: a list of two ints -/
def PoolAt (H : Hp) (a : Addr) : Prop := ∃ p q : Int, H a = some (.lst [.int p, .int q])
theorem PoolAt.same {H H' : Hp} {a : Addr} (h : PoolAt H a) (s : Same H H') : PoolAt H' a := by
  obtain ⟨p, q, h⟩ := h
  exact ⟨p, q, s _ _ h⟩
theorem PoolAt.ne {H : Hp} {a b : Addr} (h : PoolAt H a) (hb : H b = none) : b ≠ a := by
  obtain ⟨p, q, h⟩ := h
  exact (ne_of_none h hb).symm
theorem tl_app (x y : Str) : (x ++ y).cps.toList = x.cps.toList ++ y.cps.toList := TL.tl_append x y
theorem notKey_snoc {x y : Str} {c : Nat} (h : y.cps.toList = [c]) (hc : keySign c = false) : isKeyL (x ++ y).cps.toList = false := by
  rw [tl_app, h]
  unfold isKeyL
  rw [List.all_append]
  have : ([c].all keySign) = false := by simp [hc]
  rw [this]
  simp
theorem notKey_long {x y : Str} (h : 20 ≤ y.cps.toList.length) (hx : 1 ≤ x.cps.toList.length) : isKeyL (x ++ y).cps.toList = false := by
  rw [tl_app]
  unfold isKeyL
  rw [decide_eq_false (p := (x.cps.toList ++ y.cps.toList).length ≤ 20) (by rw [List.length_append]; omega)]
  simp
theorem key_len {l : List Nat} (h : isKeyL l = true) : 1 ≤ l.length ∧ l.length ≤ 20 := by
  unfold isKeyL at h
  simp at h
  omega
theorem slice_to_len (z : Str) (n : Nat) : (Txt.slice z none (some (n : Int))).length ≤ z.length := by
  have e : z = SX.S z.cps.toList := (SX.S_tl z).symm
  rw [e, SX.slice_to (Int.natCast_nonneg n), SX.S_len, SX.S_len, List.length_take]
  omega
theorem str_small {z : Str} {n : Nat} (h : z.length ≤ n) (hn : n ≤ 1000000) : (Kn.str z).small := Nat.le_trans h hn
end Ah

/-! the law's own def -/
namespace Ah
open PySem PySem.Spec PyProof.Rows L2 He
theorem okLaw {P : Program} {w : World} {K : Frag} {mg : Str → Option Value} {N : List Str} {x : Str} {k : Nat} {sp : Sp} {d : DefG} (S : Stands K d) (h0 : d.dfl = []) (sc : FnScope N [x] d.scope) (len : ∀ vs H Q E, sp vs H Q E → vs.length = 1)
    (hb : ∀ (kV doc pm : Value) (an : Option Addr) (cdv ct : Value) (us : List Value), us.length = 1 → bindArgs (PySem.W.fnOf d.name d.qual d.params d.body d.scope .none kV doc pm an cdv ct) ⟨us, []⟩ = pure ([x].zip us))
    (hbody : ∀ (base : Heap) (cdv : Value) (A : Around) (outer : List Env) (s : Shared) (H : Hp) (vs : List V) (Q : VK) (E : XK), Room k (A.deeper (envOfC d.qual d.scope s.heap.objs.size (d.ad K) cdv)) → sp vs H Q E →
      ∃ t, PSs (cxOf CX0 P w K mg base N d.qual d.scope (d.ad K) cdv A outer s H E) d.body t ∧ t { nx := fun _ H' => Q .non H', rt := Q } (start N vs) H) :
    ∃ fd, (∀ (s : Shared) (u : Value), BindsTo s fd ⟨[u], []⟩ [(x, u)]) ∧ ∀ base : Heap, FnOk P w K mg base CX0 (k + 1) (d.ad K) fd [x] sp := by
  obtain ⟨fd, F⟩ := S
  have e : d.dvs K = [] := by unfold DefG.dvs; rw [h0]; rfl
  rw [e] at F
  have b := FunD.bindsA (ps := [x]) F hb
  exact ⟨fd, fun s u => b s [u] rfl, fun base => F.ok sc len (hbody base)⟩
end Ah

namespace k01
open PySem PySem.Spec PyProof.Rows L2 He Ah
local macro_rules | `(tactic| walk_at "st") => `(tactic| repeat (first | refine ⟨_, rfl, ?_⟩ | refine ⟨_, _, rfl, rfl, ?_⟩))
local macro_rules | `(tactic| walk_at "lk") => `(tactic| repeat (first | exact look0 | rw [lookS (by decide +kernel)]))
local macro_rules | `(tactic| walk_at "pf") => `(tactic| repeat (first | rw [putF0] | rw [putF_hit] | rw [putFS (by decide +kernel)]))
local macro_rules | `(tactic| walk_at "nm") => `(tactic| simp only [tRet, tRetN, tSeq, tNext, tAsg, gName, tDrop, tIfS, tTest, tB, tNot, tAnd, tOr, tAndV, tOrV, tNotV, tIf, tC, tCons, tNil, tCB, tCall, tOp, tUn, tChain, rI0, rI, tVar, tSl, tPart, tNoPart, tLst, tTup, gSub, tPar, cxOf, L2.Cx.nox, L2.Cx.wish, L2.start, List.map_cons, List.map_nil, List.length_cons, List.length_nil, List.nil_append, List.cons_append, List.append_nil, Nat.zero_add, Nat.reduceAdd, Nat.reduceSub, Nat.sub_self, Nat.sub_zero, List.replicate_succ, List.replicate_zero, List.getElem?_cons_zero, List.getElem?_cons_succ, List.set_cons_zero, List.set_cons_succ, Option.some.injEq, exists_eq_left, exists_eq_left', exists_eq_right, exists_and_left, decide_eq_true_eq, decide_eq_false_iff_not, Bool.not_eq_true', V.int.injEq, V.bl.injEq, V.str.injEq, V.ref.injEq, List.cons.injEq, and_true, true_and, if_true, if_false, Bool.false_eq_true, Bool.not_true, Bool.not_false, ite_true, ite_false])
def top (i : Nat) : Stmt := PySem.Challenge.pw_arccursors_k01_keys_and_mixings.main.body.getD i (.Pass ⟨0, 0, 0, 0⟩)
abbrev s_is_integer : Stmt := top 10
def g_is_integer : DefG := { ad := glA "is_integer", name := "is_integer", qual := "is_integer", params := defArgs s_is_integer, body := defBody s_is_integer, scope := defScope s_is_integer }
abbrev s_in_range : Stmt := top 11
def g_in_range : DefG := { ad := glA "in_range", name := "in_range", qual := "in_range", params := defArgs s_in_range, body := defBody s_in_range, scope := defScope s_in_range }
abbrev s_check_number : Stmt := top 12
def g_check_number : DefG := { ad := glA "check_number", name := "check_number", qual := "check_number", params := defArgs s_check_number, body := defBody s_check_number, scope := defScope s_check_number }
abbrev s_is_key : Stmt := top 13
def g_is_key : DefG := { ad := glA "is_key", name := "is_key", qual := "is_key", params := defArgs s_is_key, body := defBody s_is_key, scope := defScope s_is_key }
abbrev s_check_key : Stmt := top 14
def g_check_key : DefG := { ad := glA "check_key", name := "check_key", qual := "check_key", params := defArgs s_check_key, body := defBody s_check_key, scope := defScope s_check_key }
abbrev s_mix_of : Stmt := top 15
def g_mix_of : DefG := { ad := glA "mix_of", name := "mix_of", qual := "mix_of", params := defArgs s_mix_of, body := defBody s_mix_of, scope := defScope s_mix_of }
abbrev s_check_mixing : Stmt := top 17
def g_check_mixing : DefG := { ad := glA "check_mixing", name := "check_mixing", qual := "check_mixing", params := defArgs s_check_mixing, body := defBody s_check_mixing, scope := defScope s_check_mixing }
abbrev s_place_of : Stmt := top 18
def g_place_of : DefG := { ad := glA "place_of", name := "place_of", qual := "place_of", params := defArgs s_place_of, body := defBody s_place_of, scope := defScope s_place_of }
abbrev s_place : Stmt := top 19
def g_place : DefG := { ad := glA "place", name := "place", qual := "place", params := defArgs s_place, body := defBody s_place, scope := defScope s_place }
abbrev s__law_hand : Stmt := top 21
def g__law_hand : DefG := { ad := glA "_law_hand", name := "_law_hand", qual := "_law_hand", params := defArgs s__law_hand, body := defBody s__law_hand, scope := defScope s__law_hand }
abbrev s__law_draw : Stmt := top 22
def g__law_draw : DefG := { ad := glA "_law_draw", name := "_law_draw", qual := "_law_draw", params := defArgs s__law_draw, body := defBody s__law_draw, scope := defScope s__law_draw }
abbrev s__law_mix : Stmt := top 23
def g__law_mix : DefG := { ad := glA "_law_mix", name := "_law_mix", qual := "_law_mix", params := defArgs s__law_mix, body := defBody s__law_mix, scope := defScope s__law_mix }
abbrev s__law_long_key : Stmt := top 24
def g__law_long_key : DefG := { ad := glA "_law_long_key", name := "_law_long_key", qual := "_law_long_key", params := defArgs s__law_long_key, body := defBody s__law_long_key, scope := defScope s__law_long_key }
abbrev s_law : Stmt := top 25
def g_law : DefG := { ad := glA "law", name := "law", qual := "law", params := defArgs s_law, body := defBody s_law, scope := defScope s_law }
abbrev s_InvalidNumber_init : Stmt := inClass (top 1) 0
def g_InvalidNumber_init : DefG := { ad := mtA "InvalidNumber" "__init__", name := "__init__", qual := "InvalidNumber.__init__", params := defArgs s_InvalidNumber_init, body := defBody s_InvalidNumber_init, scope := defScope s_InvalidNumber_init }
abbrev s_InvalidKey_init : Stmt := inClass (top 2) 0
def g_InvalidKey_init : DefG := { ad := mtA "InvalidKey" "__init__", name := "__init__", qual := "InvalidKey.__init__", params := defArgs s_InvalidKey_init, body := defBody s_InvalidKey_init, scope := defScope s_InvalidKey_init }
abbrev s_InvalidMixing_init : Stmt := inClass (top 3) 0
def g_InvalidMixing_init : DefG := { ad := mtA "InvalidMixing" "__init__", name := "__init__", qual := "InvalidMixing.__init__", params := defArgs s_InvalidMixing_init, body := defBody s_InvalidMixing_init, scope := defScope s_InvalidMixing_init }
abbrev s_Mixing_init : Stmt := inClass (top 16) 0
def g_Mixing_init : DefG := { ad := mtA "Mixing" "__init__", name := "__init__", qual := "Mixing.__init__", params := defArgs s_Mixing_init, body := defBody s_Mixing_init, scope := defScope s_Mixing_init }
abbrev s_Mixing_base : Stmt := inClass (top 16) 1
def g_Mixing_base : DefG := { ad := gtA "Mixing" "base", name := "base", qual := "Mixing.base", params := defArgs s_Mixing_base, body := defBody s_Mixing_base, scope := defScope s_Mixing_base }
abbrev s_Mixing_bits : Stmt := inClass (top 16) 2
def g_Mixing_bits : DefG := { ad := gtA "Mixing" "bits", name := "bits", qual := "Mixing.bits", params := defArgs s_Mixing_bits, body := defBody s_Mixing_bits, scope := defScope s_Mixing_bits }
abbrev s_Mixing_call : Stmt := inClass (top 16) 3
def g_Mixing_call : DefG := { ad := mtA "Mixing" "__call__", name := "__call__", qual := "Mixing.__call__", params := defArgs s_Mixing_call, body := defBody s_Mixing_call, scope := defScope s_Mixing_call }
abbrev s_Mixing_eq : Stmt := inClass (top 16) 4
def g_Mixing_eq : DefG := { ad := mtA "Mixing" "__eq__", name := "__eq__", qual := "Mixing.__eq__", params := defArgs s_Mixing_eq, body := defBody s_Mixing_eq, scope := defScope s_Mixing_eq }
abbrev s_Mixing_repr : Stmt := inClass (top 16) 5
def g_Mixing_repr : DefG := { ad := mtA "Mixing" "__repr__", name := "__repr__", qual := "Mixing.__repr__", params := defArgs s_Mixing_repr, body := defBody s_Mixing_repr, scope := defScope s_Mixing_repr }
/-- what the top has written -/
structure Txt (K : Frag) (mg : Str → Option Value) : Prop where
  d_is_integer : Stands K g_is_integer
  d_in_range : Stands K g_in_range
  d_check_number : Stands K g_check_number
  d_is_key : Stands K g_is_key
  d_check_key : Stands K g_check_key
  d_mix_of : Stands K g_mix_of
  d_check_mixing : Stands K g_check_mixing
  d_place_of : Stands K g_place_of
  d_place : Stands K g_place
  d__law_hand : Stands K g__law_hand
  d__law_draw : Stands K g__law_draw
  d__law_mix : Stands K g__law_mix
  d__law_long_key : Stands K g__law_long_key
  d_law : Stands K g_law
  d_InvalidNumber_init : Stands K g_InvalidNumber_init
  d_InvalidKey_init : Stands K g_InvalidKey_init
  d_InvalidMixing_init : Stands K g_InvalidMixing_init
  d_Mixing_init : Stands K g_Mixing_init
  d_Mixing_base : Stands K g_Mixing_base
  d_Mixing_bits : Stands K g_Mixing_bits
  d_Mixing_call : Stands K g_Mixing_call
  d_Mixing_eq : Stands K g_Mixing_eq
  d_Mixing_repr : Stands K g_Mixing_repr
  m_is_integer : mg "is_integer" = some (.ref (ga K "is_integer"))
  m_in_range : mg "in_range" = some (.ref (ga K "in_range"))
  m_check_number : mg "check_number" = some (.ref (ga K "check_number"))
  m_is_key : mg "is_key" = some (.ref (ga K "is_key"))
  m_check_key : mg "check_key" = some (.ref (ga K "check_key"))
  m_mix_of : mg "mix_of" = some (.ref (ga K "mix_of"))
  m_check_mixing : mg "check_mixing" = some (.ref (ga K "check_mixing"))
  m_place_of : mg "place_of" = some (.ref (ga K "place_of"))
  m_place : mg "place" = some (.ref (ga K "place"))
  m__law_hand : mg "_law_hand" = some (.ref (ga K "_law_hand"))
  m__law_draw : mg "_law_draw" = some (.ref (ga K "_law_draw"))
  m__law_mix : mg "_law_mix" = some (.ref (ga K "_law_mix"))
  m__law_long_key : mg "_law_long_key" = some (.ref (ga K "_law_long_key"))
  m_law : mg "law" = some (.ref (ga K "law"))
  m_InvalidNumber : mg "InvalidNumber" = some (.ref (ga K "InvalidNumber"))
  m_InvalidKey : mg "InvalidKey" = some (.ref (ga K "InvalidKey"))
  m_InvalidMixing : mg "InvalidMixing" = some (.ref (ga K "InvalidMixing"))
  m_Mixing : mg "Mixing" = some (.ref (ga K "Mixing"))
  c_Mixing : Cls K (ga K "Mixing")
  k_Mixing : Mk K (ga K "Mixing") (ma K (ga K "Mixing") "__init__")
  n_Mixing_own_base : NoAttr K (ga K "Mixing") "own_base"
  n_Mixing_own_bits : NoAttr K (ga K "Mixing") "own_bits"
  e_Mixing_call : Meth K (ga K "Mixing") "__call__" (ma K (ga K "Mixing") "__call__")
  e_Mixing_eq : Meth K (ga K "Mixing") "__eq__" (ma K (ga K "Mixing") "__eq__")
  e_Mixing_repr : Meth K (ga K "Mixing") "__repr__" (ma K (ga K "Mixing") "__repr__")
  v_MAX_BASE : ∃ t, mg "MAX_BASE" = some (.int 1000 t)
  v_MAX_BITS : ∃ t, mg "MAX_BITS" = some (.int 32 t)
  v_MAX_NUMBER : ∃ t, mg "MAX_NUMBER" = some (.int 4294967296 t)
  v_MAX_LENGTH : ∃ t, mg "MAX_LENGTH" = some (.int 20 t)
  v_CHARACTERS : ∃ t, mg "CHARACTERS" = some (.str "abcdefghijklmnopqrstuvwxyz0123456789" t)
  b_ValueError : mg "ValueError" = none
  b_all : mg "all" = none
  b_bool : mg "bool" = none
  b_int : mg "int" = none
  b_isinstance : mg "isinstance" = none
  b_len : mg "len" = none
  b_max : mg "max" = none
  b_min : mg "min" = none
  b_ord : mg "ord" = none
  b_property : mg "property" = none
  b_range : mg "range" = none
  b_repr : mg "repr" = none
  b_str : mg "str" = none
  p_Mixing_base : PropOf K (ga K "Mixing") "base" (ma K (ga K "Mixing") "base") (gtA "Mixing" "base" K)
  p_Mixing_bits : PropOf K (ga K "Mixing") "bits" (ma K (ga K "Mixing") "bits") (gtA "Mixing" "bits" K)
  o_Mixing : OwnC K (ga K "Mixing")
  q_Mixing : OwnK K (ga K "Mixing")
  f_Mixing : ∀ T ∈ all7, PySem.W.notFirst K (ga K "Mixing") (.type T) = true
  x_Mixing_ne : NoNe K (ga K "Mixing")
  y_Mixing_call : PySem.W.fnIn K (ma K (ga K "Mixing") "__call__") = true

def sp_is_integer (K : Frag) : Sp := fun vs H Q _ => ∃ x k, vs = [x] ∧ Is K H x k ∧ Q (.bl (k.isT "int" && !k.isT "bool")) H
theorem sc_is_integer : FnScope ["value"] ["value"] (defScope s_is_integer) := ⟨rfl, rfl, rfl, by decide +kernel, rfl, by decide +kernel, by decide +kernel⟩
theorem ok_is_integer {P : Program} {w : World} {K : Frag} {mg : Str → Option Value} {base : Heap} (T : Txt K mg) : FnB P w K mg base 1 (glA "is_integer" K) (sp_is_integer K) := by
  refine okD (N := ["value"]) (ps := ["value"]) (k := 0) (d := g_is_integer) T.d_is_integer rfl sc_is_integer (fun vs H Q E h => ?_) (fun _ _ _ _ _ _ us hl => match us, hl with | [_], _ => rfl) (fun cdv A outer s H vs Q E hr h => ?_)
  · obtain ⟨x, k, rfl, hx, q⟩ := h
    rfl
  · have hu := hu_of hr
    obtain ⟨x, k, rfl, hx, q⟩ := h
    refine ⟨_, PSs.nox ((pss_one (ps_ret (pe_and (pe_callB call_isi (by rfl) T.b_isinstance (by decide +kernel) (pa_cons (pv 0) (pa_cons (pe_bltn (v := .ty "int") (u := .type "int") (by rfl) T.b_int (by decide +kernel) rfl) pa_nil))) (pe_one (pe_not (pe_callB call_isi (by rfl) T.b_isinstance (by decide +kernel) (pa_cons (pv 0) (pa_cons (pe_bltn (v := .ty "bool") (u := .type "bool") (by rfl) T.b_bool (by decide +kernel) rfl) pa_nil))))))))), ?_⟩
    walk_at "nm"
    refine isi "int" hx ?_
    walk_at "nm"
    cases e : k.isT "int" with
    | false =>
      rw [e] at q
      exact iteF q
    | true =>
      rw [e] at q
      refine iteT ?_
      exact isi "bool" hx ⟨_, rfl, q⟩

def sp_in_range (K : Frag) : Sp := fun vs H Q _ => ∃ x k a b, vs = [x, .int a, .int b] ∧ Is K H x k ∧ Q (.bl (k.within a b)) H
theorem sc_in_range : FnScope ["value", "least", "most"] ["value", "least", "most"] (defScope s_in_range) := ⟨rfl, rfl, rfl, by decide +kernel, rfl, by decide +kernel, by decide +kernel⟩
theorem ok_in_range {P : Program} {w : World} {K : Frag} {mg : Str → Option Value} {base : Heap} (T : Txt K mg) : FnB P w K mg base 2 (glA "in_range" K) (sp_in_range K) := by
  refine okD (N := ["value", "least", "most"]) (ps := ["value", "least", "most"]) (k := 1) (d := g_in_range) T.d_in_range rfl sc_in_range (fun vs H Q E h => ?_) (fun _ _ _ _ _ _ us hl => match us, hl with | [_, _, _], _ => rfl) (fun cdv A outer s H vs Q E hr h => ?_)
  · obtain ⟨x, k, a, b, rfl, hx, q⟩ := h
    rfl
  · have hu := hu_of hr
    obtain ⟨x, k, a, b, rfl, hx, q⟩ := h
    refine ⟨_, PSs.nox ((pss_one (ps_ret (pe_and (pe_cF (ok_is_integer (K := K) T) hr T.m_is_integer passL (pa_cons (pv 0) pa_nil)) (pe_one (pe_chain op_le op_le (pv 1) (pv 0) (pv 2))))))), ?_⟩
    walk_at "st"
    refine ⟨x, k, rfl, hx, ?_⟩
    walk_at "st"
    cases hx with
    | int i =>
      refine iteT ?_
      walk_at "st"
      by_cases h : a ≤ i
      · rw [decide_eq_true h]
        refine iteT ?_
        walk_at "st"
        have e : (Kn.int i).within a b = decide (i ≤ b) := by simp [Kn.within, h]
        rw [e] at q
        exact q
      · rw [decide_eq_false h]
        have e : (Kn.int i).within a b = false := by simp [Kn.within, h]
        rw [e] at q
        exact iteF q
    | _ => exact iteF q

def sp_check_number (K : Frag) : Sp := fun vs H Q _ => ∃ x k a b, vs = [x, .int a, .int b] ∧ Is K H x k ∧ k.within a b = true ∧ Q .non H
theorem sc_check_number : FnScope ["value", "least", "most"] ["value", "least", "most"] (defScope s_check_number) := ⟨rfl, rfl, rfl, by decide +kernel, rfl, by decide +kernel, by decide +kernel⟩
theorem ok_check_number {P : Program} {w : World} {K : Frag} {mg : Str → Option Value} {base : Heap} (T : Txt K mg) : FnB P w K mg base 3 (glA "check_number" K) (sp_check_number K) := by
  refine okD (N := ["value", "least", "most"]) (ps := ["value", "least", "most"]) (k := 2) (d := g_check_number) T.d_check_number rfl sc_check_number (fun vs H Q E h => ?_) (fun _ _ _ _ _ _ us hl => match us, hl with | [_, _, _], _ => rfl) (fun cdv A outer s H vs Q E hr h => ?_)
  · obtain ⟨x, k, a, b, rfl, hx, hk, q⟩ := h
    rfl
  · have hu := hu_of hr
    obtain ⟨x, k, a, b, rfl, hx, hk, q⟩ := h
    refine ⟨_, PSs.nox ((pss_one (ps_if (pt_not (pt_val (pe_cF (ok_in_range (K := K) T) hr T.m_in_range passL (pa_cons (pv 0) (pa_cons (pv 1) (pa_cons (pv 2) pa_nil))))))
        (pss_one ps_never)
        pss_nil))), ?_⟩
    walk_at "st"
    refine ⟨x, k, a, b, rfl, hx, ?_⟩
    walk_at "st"
    rw [hk]
    exact iteF q

def sp_is_key (K : Frag) : Sp := fun vs H Q _ => ∃ x k, vs = [x] ∧ Is K H x k ∧ k.small ∧ ∀ H', Same H H' → Q (.bl k.isKey) H'
theorem sc_is_key : FnScope ["value", "sign"] ["value"] (defScope s_is_key) := ⟨rfl, rfl, rfl, by decide +kernel, rfl, by decide +kernel, by decide +kernel⟩
theorem ok_is_key {P : Program} {w : World} {K : Frag} {mg : Str → Option Value} {base : Heap} (T : Txt K mg) : FnB P w K mg base 1 (glA "is_key" K) (sp_is_key K) := by
  refine okD (N := ["value", "sign"]) (ps := ["value"]) (k := 0) (d := g_is_key) T.d_is_key rfl sc_is_key (fun vs H Q E h => ?_) (fun _ _ _ _ _ _ us hl => match us, hl with | [_], _ => rfl) (fun cdv A outer s H vs Q E hr h => ?_)
  · obtain ⟨x, k, rfl, hx, hs, q⟩ := h
    rfl
  · have hu := hu_of hr
    obtain ⟨x, k, rfl, hx, hs, q⟩ := h
    refine ⟨_, PSs.nox ((pss_cons (ps_if (PW.pt (pw_or (pt_not (pt_val (pe_callB call_isi (by rfl) T.b_isinstance (by decide +kernel) (pa_cons (pv 0) (pa_cons (pe_bltn (v := .ty "str") (u := .type "str") (by rfl) T.b_str (by decide +kernel) rfl) pa_nil))))) (pw_or1 (pt_not (pt_chain op_le op_le pe_int (pe_callB call_len_str (by rfl) T.b_len (by decide +kernel) (pa_cons (pv 0) pa_nil)) (pe_gc (by rfl) (gint T.v_MAX_LENGTH)))))))
        (pss_one (ps_ret pe_bl))
        pss_nil)
      (pss_one (ps_ret (pe_callB (cr_all rfl) (by rfl) T.b_all (by decide +kernel) (pa_cons (pe_lc (own := [("sign", 1)]) (g := gName 1) rfl sc_is_key.nd (pi_str (pv 0)) (blkOk_by (N := ["value", "sign"]) (sc := defScope s_is_key) (by decide +kernel)) (fun _ _ _ _ _ => pg_name (i := 1) sc_is_key.nd rfl (Or.inl rfl)) (fun _ _ _ _ _ => pts_nil) (fun _ _ _ _ _ => (pe_cmpR op_in_sign (pv 1) (pe_gc (by rfl) (gstr T.v_CHARACTERS)) (by rfl)))) pa_nil)))))), ?_⟩
    walk_at "nm"
    refine isi "str" hx ?_
    walk_at "nm"
    cases hx with
    | str z =>
      rw [if_neg (by simp [Kn.isT])]
      have hz : z.length ≤ 1000000 := hs
      refine ⟨z, rfl, (by rw [sizeLine_eq]; omega), ?_⟩
      have q' : ∀ b, b = isKeyL z.cps.toList → ∀ H', Same H H' → Q (.bl b) H' := fun b e H' s => by rw [e]; exact q H' s
      have hl := str_len z
      by_cases h1 : (1 : Int) ≤ (z.length : Int)
      · rw [if_pos h1]
        by_cases h2 : (z.length : Int) ≤ 20
        · rw [if_neg (by omega)]
          refine ⟨_, rfl, _, rfl, fun D hD => ?_⟩
          refine lc_pure walk_str (f := fun i => .bl (keySign (z.cps.toList.getD i 0))) (it := fun i => .str ⟨#[z.cps.toList.getD i 0]⟩) (by rw [cps_len]; omega) hD (fun _ _ => trivial) (fun i H x H' _ y => yStr i H x H' y) (by intro i; rfl) ?_ ?_
          · intro i hi H' Q' s k
            refine ⟨_, rfl, _, rfl, _, rfl, ?_⟩
            have e := chars_mem (z.cps.toList.getD i 0)
            unfold chars at e
            rw [e]
            exact k H' (Same.refl _)
          · intro H' s hl'
            rw [cps_len, map_getD_range z.cps.toList 0 (fun c => V.bl (keySign c))] at hl'
            refine ⟨D, z.cps.toList.map keySign, rfl, SqL.of (by rw [hl', List.map_map]; rfl), ?_⟩
            refine q' _ ?_ H' s
            unfold isKeyL
            rw [decide_eq_true (by omega), decide_eq_true (by omega), List.all_map]
            rfl
        · rw [if_pos (by omega)]
          refine q' _ ?_ H (Same.refl _)
          unfold isKeyL
          rw [decide_eq_false (p := z.cps.toList.length ≤ 20) (by omega)]
          simp
      · rw [if_neg h1]
        refine q' _ ?_ H (Same.refl _)
        unfold isKeyL
        rw [decide_eq_false (p := 1 ≤ z.cps.toList.length) (by omega)]
        simp
    | _ =>
      rw [if_pos (by simp [Kn.isT])]
      exact q H (Same.refl _)

def sp_check_key (K : Frag) : Sp := fun vs H Q _ => ∃ z : Str, vs = [.str z] ∧ isKeyL z.cps.toList = true ∧ ∀ H', Same H H' → Q .non H'
theorem sc_check_key : FnScope ["value"] ["value"] (defScope s_check_key) := ⟨rfl, rfl, rfl, by decide +kernel, rfl, by decide +kernel, by decide +kernel⟩
theorem ok_check_key {P : Program} {w : World} {K : Frag} {mg : Str → Option Value} {base : Heap} (T : Txt K mg) : FnB P w K mg base 2 (glA "check_key" K) (sp_check_key K) := by
  refine okD (N := ["value"]) (ps := ["value"]) (k := 1) (d := g_check_key) T.d_check_key rfl sc_check_key (fun vs H Q E h => ?_) (fun _ _ _ _ _ _ us hl => match us, hl with | [_], _ => rfl) (fun cdv A outer s H vs Q E hr h => ?_)
  · obtain ⟨z, rfl, hz, q⟩ := h
    rfl
  · have hu := hu_of hr
    obtain ⟨z, rfl, hz, q⟩ := h
    refine ⟨_, PSs.nox ((pss_one (ps_if (pt_not (pt_val (pe_cF (ok_is_key (K := K) T) hr T.m_is_key passL (pa_cons (pv 0) pa_nil))))
        (pss_one ps_never)
        pss_nil))), ?_⟩
    walk_at "nm"
    refine ⟨_, .str z, rfl, .str z, ?_, fun H' s => ?_⟩
    · exact key_small hz
    · walk_at "nm"
      have e : (Kn.str z).isKey = true := hz
      rw [e]
      exact q H' s

def sp_mix_of (K : Frag) : Sp := fun vs H Q _ => ∃ (b n : Int) (z : Str), vs = [.int b, .int n, .str z] ∧ (1 ≤ b ∧ b ≤ 1000) ∧ (1 ≤ n ∧ n ≤ 32) ∧ Q (.int (mixL b n z.cps.toList)) H
theorem sc_mix_of : FnScope ["base", "bits", "key", "found", "sign"] ["base", "bits", "key"] (defScope s_mix_of) := ⟨rfl, rfl, rfl, by decide +kernel, rfl, by decide +kernel, by decide +kernel⟩
theorem ok_mix_of {P : Program} {w : World} {K : Frag} {mg : Str → Option Value} {base : Heap} (T : Txt K mg) : FnB P w K mg base 1 (glA "mix_of" K) (sp_mix_of K) := by
  refine okD (N := ["base", "bits", "key", "found", "sign"]) (ps := ["base", "bits", "key"]) (k := 0) (d := g_mix_of) T.d_mix_of rfl sc_mix_of (fun vs H Q E h => ?_) (fun _ _ _ _ _ _ us hl => match us, hl with | [_, _, _], _ => rfl) (fun cdv A outer s H vs Q E hr h => ?_)
  · obtain ⟨b, n, z, rfl, hb, hn, q⟩ := h
    rfl
  · have hu := hu_of hr
    obtain ⟨b, n, z, rfl, hb, hn, q⟩ := h
    refine ⟨_, PSs.nox ((pss_cons (ps_set (i := 3) sc_mix_of.nd rfl (Or.inl rfl) pe_int)
      (pss_cons (ps_for PassesOwn.never rfl (pi_str (pv 2)) (pg_name (i := 4) sc_mix_of.nd rfl (Or.inl rfl))
        (pss_one (ps_set (i := 3) sc_mix_of.nd rfl (Or.inl rfl) (pe_op op_mod (pe_op op_add (pe_op op_mul (pv 3) (pv 0)) (pe_callB call_ord (by rfl) T.b_ord (by decide +kernel) (pa_cons (pv 4) pa_nil))) (pe_op op_shl pe_int (pv 1))))))
      (pss_one (ps_ret (pv 3)))))), ?_⟩
    walk_at "nm"
    refine ⟨_, rfl, _, rfl, for_it walk_str (fun i σ H' => ∃ v, σ = [some (.int b), some (.int n), some (.str z), some (.int (mixL b n (z.cps.toList.take i))), v] ∧ H' = H) ⟨none, rfl, rfl⟩ (fun _ _ _ _ _ => trivial) ?_ ?_⟩
    · rintro i x σ H1 H2 hi ⟨v, rfl, rfl⟩ ⟨rfl, c, hc, rfl⟩
      have hc' : z.cps.toList[i]? = some c := by simpa using hc
      obtain ⟨m0, m1⟩ := mixL_range b n (z.cps.toList.take i)
      have p32 := pow32 hn.2
      walk_at "nm"
      refine ⟨.inl ⟨by omega, by omega⟩, rfl, ⟨by omega, by omega, by decide⟩, (by rw [Int.one_mul]; exact pow_pos2 _), ?_⟩
      rw [take_more hc', mixL_snoc, Int.one_mul]
      exact ⟨rfl, _, rfl⟩
    · rintro σ H1 ⟨v, rfl, rfl⟩
      walk_at "nm"
      rw [cps_len, List.take_length]
      exact q

/-- a Mixing stands at x -/
def MixAt (K : Frag) (H : Hp) (x : Addr) (b n : Int) : Prop := ∃ dx, H x = some (.ins (ga K "Mixing") dx [("own_base", .int b), ("own_bits", .int n)])
theorem MixAt.same {K : Frag} {H H' : Hp} {x : Addr} {b n : Int} (h : MixAt K H x b n) (s : Same H H') : MixAt K H' x b n := by
  obtain ⟨dx, h⟩ := h
  exact ⟨dx, s _ _ h⟩
theorem MixAt.ex {K : Frag} {H H' : Hp} {x a : Addr} {b n : Int} (h : MixAt K H x b n) (s : Ex a H H') (hn : x ≠ a) : MixAt K H' x b n := by
  obtain ⟨dx, h⟩ := h
  exact ⟨dx, s _ _ hn h⟩
theorem MixAt.ne_pool {K : Frag} {H : Hp} {x a : Addr} {b n : Int} (h : MixAt K H x b n) (hp : PoolAt H a) : x ≠ a := by
  obtain ⟨dx, h⟩ := h
  obtain ⟨p, q, hp⟩ := hp
  exact ne_of h hp (by intro z; cases z)
structure BN (b n : Int) : Prop where
  b1 : 1 ≤ b
  b2 : b ≤ 1000
  n1 : 1 ≤ n
  n2 : n ≤ 32

def sp_Mixing_init (K : Frag) : Sp := fun vs H Q _ => ∃ (x dx : Addr) (b n : Int), vs = [.ref x, .int b, .int n] ∧ H x = some (.ins (ga K "Mixing") dx []) ∧ BN b n ∧
  ∀ H', MixAt K H' x b n → Ex x H H' → Q .non H'
theorem sc_Mixing_init : FnScope ["self", "base", "bits"] ["self", "base", "bits"] (defScope s_Mixing_init) := ⟨rfl, rfl, rfl, by decide +kernel, rfl, by decide +kernel, by decide +kernel⟩
theorem ok_Mixing_init {P : Program} {w : World} {K : Frag} {mg : Str → Option Value} {base : Heap} (T : Txt K mg) : FnB P w K mg base 4 (mtA "Mixing" "__init__" K) (sp_Mixing_init K) := by
  refine okD (N := ["self", "base", "bits"]) (ps := ["self", "base", "bits"]) (k := 3) (d := g_Mixing_init) T.d_Mixing_init rfl sc_Mixing_init (fun vs H Q E h => ?_) (fun _ _ _ _ _ _ us hl => match us, hl with | [_, _, _], _ => rfl) (fun cdv A outer s H vs Q E hr h => ?_)
  · obtain ⟨x, dx, b, n, rfl, hx, hb, q⟩ := h
    rfl
  · have hu := hu_of hr
    obtain ⟨x, dx, b, n, rfl, hx, hb, q⟩ := h
    refine ⟨_, PSs.nox ((pss_cons (ps_expr (pe_cF (ok_check_number (K := K) T) hr T.m_check_number passL (pa_cons (pv 1) (pa_cons pe_int (pa_cons (pe_gc (by rfl) (gint T.v_MAX_BASE)) pa_nil)))))
      (pss_cons (ps_expr (pe_cF (ok_check_number (K := K) T) hr T.m_check_number passL (pa_cons (pv 2) (pa_cons pe_int (pa_cons (pe_gc (by rfl) (gint T.v_MAX_BITS)) pa_nil)))))
      (pss_cons (ps_fld (pv 0) (pv 1) rfl)
      (pss_one (ps_fld (pv 0) (pv 2) rfl)))))), ?_⟩
    obtain ⟨b1, b2, n1, n2⟩ := hb
    walk_at "nm"
    refine ⟨_, .int b, _, _, rfl, .int b, (by simp [Kn.within]; omega), ?_⟩
    walk_at "nm"
    refine ⟨_, .int n, _, _, rfl, .int n, (by simp [Kn.within]; omega), ?_⟩
    refine ⟨_, rfl, _, rfl, x, _, dx, [], rfl, hx, T.c_Mixing, T.n_Mixing_own_base, (by decide), ?_⟩
    refine ⟨_, rfl, _, rfl, x, _, dx, _, rfl, upd_same, T.c_Mixing, T.n_Mixing_own_bits, (by rw [putF0]; simp), ?_⟩
    refine q _ ⟨dx, ?_⟩ (Ex.refl.upd.upd)
    rw [upd_same]
    walk_at "pf"

def sp_Mixing_base (K : Frag) : Sp := fun vs H Q _ => ∃ (x : Addr) (b n : Int), vs = [.ref x] ∧ MixAt K H x b n ∧ Q (.int b) H
theorem sc_Mixing_base : FnScope ["self"] ["self"] (defScope s_Mixing_base) := ⟨rfl, rfl, rfl, by decide +kernel, rfl, by decide +kernel, by decide +kernel⟩
theorem ok_Mixing_base {P : Program} {w : World} {K : Frag} {mg : Str → Option Value} {base : Heap} (T : Txt K mg) : FnB P w K mg base 1 (gtA "Mixing" "base" K) (sp_Mixing_base K) := by
  refine okD (N := ["self"]) (ps := ["self"]) (k := 0) (d := g_Mixing_base) T.d_Mixing_base rfl sc_Mixing_base (fun vs H Q E h => ?_) (fun _ _ _ _ _ _ us hl => match us, hl with | [_], _ => rfl) (fun cdv A outer s H vs Q E hr h => ?_)
  · obtain ⟨x, b, n, rfl, ⟨dx, hx⟩, q⟩ := h
    rfl
  · have hu := hu_of hr
    obtain ⟨x, b, n, rfl, ⟨dx, hx⟩, q⟩ := h
    refine ⟨_, PSs.nox ((pss_one (ps_ret (pe_fld (pv 0) rfl)))), ?_⟩
    exact ⟨_, rfl, x, _, dx, _, _, rfl, hx, T.c_Mixing, T.n_Mixing_own_base, (by walk_at "lk"), q⟩

def sp_Mixing_bits (K : Frag) : Sp := fun vs H Q _ => ∃ (x : Addr) (b n : Int), vs = [.ref x] ∧ MixAt K H x b n ∧ Q (.int n) H
theorem sc_Mixing_bits : FnScope ["self"] ["self"] (defScope s_Mixing_bits) := ⟨rfl, rfl, rfl, by decide +kernel, rfl, by decide +kernel, by decide +kernel⟩
theorem ok_Mixing_bits {P : Program} {w : World} {K : Frag} {mg : Str → Option Value} {base : Heap} (T : Txt K mg) : FnB P w K mg base 1 (gtA "Mixing" "bits" K) (sp_Mixing_bits K) := by
  refine okD (N := ["self"]) (ps := ["self"]) (k := 0) (d := g_Mixing_bits) T.d_Mixing_bits rfl sc_Mixing_bits (fun vs H Q E h => ?_) (fun _ _ _ _ _ _ us hl => match us, hl with | [_], _ => rfl) (fun cdv A outer s H vs Q E hr h => ?_)
  · obtain ⟨x, b, n, rfl, ⟨dx, hx⟩, q⟩ := h
    rfl
  · have hu := hu_of hr
    obtain ⟨x, b, n, rfl, ⟨dx, hx⟩, q⟩ := h
    refine ⟨_, PSs.nox ((pss_one (ps_ret (pe_fld (pv 0) rfl)))), ?_⟩
    exact ⟨_, rfl, x, _, dx, _, _, rfl, hx, T.c_Mixing, T.n_Mixing_own_bits, (by walk_at "lk"), q⟩

def sp_Mixing_call (K : Frag) : Sp := fun vs H Q _ => ∃ (x : Addr) (b n : Int) (z : Str), vs = [.ref x, .str z] ∧ MixAt K H x b n ∧ BN b n ∧ isKeyL z.cps.toList = true ∧ ∀ H', Same H H' → Q (.int (mixL b n z.cps.toList)) H'
theorem sc_Mixing_call : FnScope ["self", "key"] ["self", "key"] (defScope s_Mixing_call) := ⟨rfl, rfl, rfl, by decide +kernel, rfl, by decide +kernel, by decide +kernel⟩
theorem ok_Mixing_call {P : Program} {w : World} {K : Frag} {mg : Str → Option Value} {base : Heap} (T : Txt K mg) : FnB P w K mg base 3 (mtA "Mixing" "__call__" K) (sp_Mixing_call K) := by
  refine okD (N := ["self", "key"]) (ps := ["self", "key"]) (k := 2) (d := g_Mixing_call) T.d_Mixing_call rfl sc_Mixing_call (fun vs H Q E h => ?_) (fun _ _ _ _ _ _ us hl => match us, hl with | [_, _], _ => rfl) (fun cdv A outer s H vs Q E hr h => ?_)
  · obtain ⟨x, b, n, z, rfl, hx, hb, hz, q⟩ := h
    rfl
  · have hu := hu_of hr
    obtain ⟨x, b, n, z, rfl, hx, hb, hz, q⟩ := h
    refine ⟨_, PSs.nox ((pss_cons (ps_expr (pe_cF (ok_check_key (K := K) T) hr T.m_check_key passL (pa_cons (pv 1) pa_nil)))
      (pss_one (ps_ret (pe_cF (ok_mix_of (K := K) T) hr T.m_mix_of passL (pa_cons (pe_fld (pv 0) rfl) (pa_cons (pe_fld (pv 0) rfl) (pa_cons (pv 1) pa_nil)))))))), ?_⟩
    walk_at "nm"
    refine ⟨z, rfl, hz, fun H' s => ?_⟩
    obtain ⟨dx, hx'⟩ := hx.same s
    refine ⟨_, rfl, x, _, dx, _, _, rfl, hx', T.c_Mixing, T.n_Mixing_own_base, (by walk_at "lk"), ?_⟩
    refine ⟨_, rfl, x, _, dx, _, _, rfl, hx', T.c_Mixing, T.n_Mixing_own_bits, (by walk_at "lk"), ?_⟩
    exact ⟨b, n, z, rfl, ⟨hb.b1, hb.b2⟩, ⟨hb.n1, hb.n2⟩, q H' s⟩

/-- what == of a mixing and a value asks and tells -/
def sp_Mixing_eq (K : Frag) : Sp := fun vs H Q _ => ∃ (x : Addr) (b n : Int) (y : V) (k : Kn), vs = [.ref x, y] ∧ MixAt K H x b n ∧ Is K H y k ∧
  ((k.isC (ga K "Mixing") = false ∧ (∀ a D, k ≠ .ins a D) ∧ Q (.bl false) H) ∨ (∃ (a : Addr) (b' n' : Int), k = .ins a (ga K "Mixing") ∧ y = .ref a ∧ MixAt K H a b' n' ∧ Q (.bl (decide (b = b') && decide (n = n'))) H))
theorem sc_Mixing_eq : FnScope ["self", "other"] ["self", "other"] (defScope s_Mixing_eq) := ⟨rfl, rfl, rfl, by decide +kernel, rfl, by decide +kernel, by decide +kernel⟩
theorem ok_Mixing_eq {P : Program} {w : World} {K : Frag} {mg : Str → Option Value} {base : Heap} (T : Txt K mg) : FnB P w K mg base 3 (mtA "Mixing" "__eq__" K) (sp_Mixing_eq K) := by
  refine okD (N := ["self", "other"]) (ps := ["self", "other"]) (k := 2) (d := g_Mixing_eq) T.d_Mixing_eq rfl sc_Mixing_eq (fun vs H Q E h => ?_) (fun _ _ _ _ _ _ us hl => match us, hl with | [_, _], _ => rfl) (fun cdv A outer s H vs Q E hr h => ?_)
  · obtain ⟨x, b, n, y, k, rfl, ⟨dx, hx⟩, hy, q⟩ := h
    rfl
  · have hu := hu_of hr
    obtain ⟨x, b, n, y, k, rfl, ⟨dx, hx⟩, hy, q⟩ := h
    refine ⟨_, PSs.nox ((pss_one (ps_ret (pe_and (pe_callB call_isi (by rfl) T.b_isinstance (by decide +kernel) (pa_cons (pv 1) (pa_cons (pe_gc (v := .ref (ga K "Mixing")) (by rfl) ⟨_, T.m_Mixing, rfl⟩) pa_nil))) (pe_and (pe_cmpR op_eq (pe_fld (pv 0) rfl) (pe_prF (pv 1) T.c_Mixing T.p_Mixing_base (ok_Mixing_base (K := K) T) hr passL) (nomark _)) (pe_one (pe_cmpR op_eq (pe_fld (pv 0) rfl) (pe_prF (pv 1) T.c_Mixing T.p_Mixing_bits (ok_Mixing_bits (K := K) T) hr passL) (nomark _)))))))), ?_⟩
    walk_at "nm"
    refine isiC hy T.q_Mixing ?_ ?_
    · rcases q with ⟨_, q, _⟩ | ⟨a, b', n', rfl, _, _⟩
      · intro a D e
        exact absurd e (q a D)
      · intro a' D e hn
        cases e
        exact absurd rfl hn
    · walk_at "nm"
      rcases q with ⟨e, _, q⟩ | ⟨a, b', n', rfl, rfl, ⟨dy, ha⟩, q⟩
      · rw [e]
        exact iteF q
      · have e : (Kn.ins a (ga K "Mixing")).isC (ga K "Mixing") = true := decide_eq_true rfl
        rw [e]
        refine iteT ?_
        refine ⟨_, rfl, x, _, dx, _, _, rfl, hx, T.c_Mixing, T.n_Mixing_own_base, (by walk_at "lk"), ?_⟩
        refine ⟨_, rfl, a, dy, _, rfl, ha, a, b', n', rfl, ⟨dy, ha⟩, rfl, _, rfl, ?_⟩
        by_cases h : b = b'
        · subst h
          rw [decide_eq_true rfl]
          refine iteT ?_
          refine ⟨_, rfl, x, _, dx, _, _, rfl, hx, T.c_Mixing, T.n_Mixing_own_bits, (by walk_at "lk"), ?_⟩
          refine ⟨_, rfl, a, dy, _, rfl, ha, a, b, n', rfl, ⟨dy, ha⟩, rfl, ?_⟩
          simpa using q
        · rw [decide_eq_false (by simpa using h)]
          refine iteF ?_
          simpa [h] using q

def mixText (b n : Int) : Str := ((((Str.empty ++ ("Mixing(" : Str)) ++ Str.ofString (toString b)) ++ (", " : Str)) ++ Str.ofString (toString n)) ++ (")" : Str)
theorem num4 : ∀ n, n < 1001 → (Str.ofString (toString ((n : Nat) : Int))).length ≤ 4 := by decide +kernel
theorem num4i {i : Int} (h0 : 0 ≤ i) (h1 : i ≤ 1000) : (Str.ofString (toString i)).length ≤ 4 := by
  have h := num4 i.toNat (by omega)
  rw [Int.toNat_of_nonneg h0] at h
  exact h
theorem log1920 {i : Int} (h0 : 0 ≤ i) (h1 : i ≤ 1000) : i.natAbs.log2 < 1920 := by
  have h : i.natAbs < 2 ^ 1920 := Nat.lt_of_lt_of_le (show i.natAbs < 2 ^ 10 by omega) (Nat.pow_le_pow_right (by decide) (by decide))
  exact PySem.Flt.log2_lt_of (by decide) h
/-- the text of a mixing, in an f-string: whatever tells base and bits -/
theorem mix_js {ta tb : TE} {σ : L2.St} {H : Hp} {Q : Str → Hp → Prop} {b n : Int} (h : BN b n) (ha : ∀ Q', Q' (.int b) H → ta σ H Q') (hb : ∀ Q', Q' (.int n) H → tb σ H Q') (q : Q (mixText b n) H) :
    tJs [tC (V.str "Mixing("), tFmt ta, tC (V.str ", "), tFmt tb, tC (V.str ")")] Str.empty σ H Q := by
  obtain ⟨b1, b2, n1, n2⟩ := h
  have l1 := num4i (i := b) (by omega) (by omega)
  have l2 := num4i (i := n) (by omega) (by omega)
  have e0 : Str.empty.length = 0 := rfl
  have e1 : (Str.ofString "Mixing(").length = 7 := by decide +kernel
  have e2 : (Str.ofString ", ").length = 2 := by decide +kernel
  have e3 : (Str.ofString ")").length = 1 := by decide +kernel
  refine ⟨_, rfl, (by rw [Str.length_append, sizeLine_eq]; omega), ?_⟩
  refine ha _ (.inr ⟨b, rfl, log1920 (by omega) (by omega), _, rfl, (by simp only [Str.length_append, sizeLine_eq]; omega), ?_⟩)
  refine ⟨_, rfl, (by simp only [Str.length_append, sizeLine_eq]; omega), ?_⟩
  refine hb _ (.inr ⟨n, rfl, log1920 (by omega) (by omega), _, rfl, (by simp only [Str.length_append, sizeLine_eq]; omega), ?_⟩)
  exact ⟨_, rfl, (by simp only [Str.length_append, sizeLine_eq]; omega), q⟩
def sp_Mixing_repr (K : Frag) : Sp := fun vs H Q _ => ∃ (x : Addr) (b n : Int), vs = [.ref x] ∧ MixAt K H x b n ∧ BN b n ∧ Q (.str (mixText b n)) H
theorem sc_Mixing_repr : FnScope ["self"] ["self"] (defScope s_Mixing_repr) := ⟨rfl, rfl, rfl, by decide +kernel, rfl, by decide +kernel, by decide +kernel⟩
theorem ok_Mixing_repr {P : Program} {w : World} {K : Frag} {mg : Str → Option Value} {base : Heap} (T : Txt K mg) : FnB P w K mg base 1 (mtA "Mixing" "__repr__" K) (sp_Mixing_repr K) := by
  refine okD (N := ["self"]) (ps := ["self"]) (k := 0) (d := g_Mixing_repr) T.d_Mixing_repr rfl sc_Mixing_repr (fun vs H Q E h => ?_) (fun _ _ _ _ _ _ us hl => match us, hl with | [_], _ => rfl) (fun cdv A outer s H vs Q E hr h => ?_)
  · obtain ⟨x, b, n, rfl, ⟨dx, hx⟩, hb, q⟩ := h
    rfl
  · have hu := hu_of hr
    obtain ⟨x, b, n, rfl, ⟨dx, hx⟩, hb, q⟩ := h
    refine ⟨_, PSs.nox ((pss_one (ps_ret (pe_joined (pj_cons pe_str (pj_cons (pe_fmt (pe_fld (pv 0) rfl)) (pj_cons pe_str (pj_cons (pe_fmt (pe_fld (pv 0) rfl)) (pj_cons pe_str pj_nil))))))))), ?_⟩
    exact mix_js hb (fun Q' q' => ⟨_, rfl, x, _, dx, _, _, rfl, hx, T.c_Mixing, T.n_Mixing_own_base, (by walk_at "lk"), q'⟩) (fun Q' q' => ⟨_, rfl, x, _, dx, _, _, rfl, hx, T.c_Mixing, T.n_Mixing_own_bits, (by walk_at "lk"), q'⟩) q

def sp_check_mixing (K : Frag) : Sp := fun vs H Q _ => ∃ (x : Addr) (b n : Int), vs = [.ref x] ∧ MixAt K H x b n ∧ Q .non H
theorem sc_check_mixing : FnScope ["value"] ["value"] (defScope s_check_mixing) := ⟨rfl, rfl, rfl, by decide +kernel, rfl, by decide +kernel, by decide +kernel⟩
theorem ok_check_mixing {P : Program} {w : World} {K : Frag} {mg : Str → Option Value} {base : Heap} (T : Txt K mg) : FnB P w K mg base 1 (glA "check_mixing" K) (sp_check_mixing K) := by
  refine okD (N := ["value"]) (ps := ["value"]) (k := 0) (d := g_check_mixing) T.d_check_mixing rfl sc_check_mixing (fun vs H Q E h => ?_) (fun _ _ _ _ _ _ us hl => match us, hl with | [_], _ => rfl) (fun cdv A outer s H vs Q E hr h => ?_)
  · obtain ⟨x, b, n, rfl, ⟨dx, hx⟩, q⟩ := h
    rfl
  · have hu := hu_of hr
    obtain ⟨x, b, n, rfl, ⟨dx, hx⟩, q⟩ := h
    refine ⟨_, PSs.nox ((pss_one (ps_if (pt_not (pt_val (pe_callB call_isi (by rfl) T.b_isinstance (by decide +kernel) (pa_cons (pv 0) (pa_cons (pe_gc (v := .ref (ga K "Mixing")) (by rfl) ⟨_, T.m_Mixing, rfl⟩) pa_nil)))))
        (pss_one ps_never)
        pss_nil))), ?_⟩
    walk_at "nm"
    refine isiC (.ins hx T.o_Mixing) T.q_Mixing (fun a D e hn => ?_) ?_
    · cases e
      exact absurd rfl hn
    · walk_at "nm"
      have e : (Kn.ins x (ga K "Mixing")).isC (ga K "Mixing") = true := decide_eq_true rfl
      rw [e]
      exact q

def sp_place_of (K : Frag) : Sp := fun vs H Q _ => ∃ (x : Addr) (b n : Int) (z : Str), vs = [.ref x, .str z] ∧ MixAt K H x b n ∧ BN b n ∧ isKeyL z.cps.toList = true ∧ ∀ p, H p = none → Q (.ref p) (upd H p (.tup [.int (mixL b n z.cps.toList), .str z]))
theorem sc_place_of : FnScope ["mixing", "key"] ["mixing", "key"] (defScope s_place_of) := ⟨rfl, rfl, rfl, by decide +kernel, rfl, by decide +kernel, by decide +kernel⟩
theorem ok_place_of {P : Program} {w : World} {K : Frag} {mg : Str → Option Value} {base : Heap} (T : Txt K mg) : FnB P w K mg base 3 (glA "place_of" K) (sp_place_of K) := by
  refine okD (N := ["mixing", "key"]) (ps := ["mixing", "key"]) (k := 2) (d := g_place_of) T.d_place_of rfl sc_place_of (fun vs H Q E h => ?_) (fun _ _ _ _ _ _ us hl => match us, hl with | [_, _], _ => rfl) (fun cdv A outer s H vs Q E hr h => ?_)
  · obtain ⟨x, b, n, z, rfl, hx, hb, hz, q⟩ := h
    rfl
  · have hu := hu_of hr
    obtain ⟨x, b, n, z, rfl, hx, hb, hz, q⟩ := h
    refine ⟨_, PSs.nox ((pss_one (ps_ret (pe_tup (pa_cons (pe_cF (ok_mix_of (K := K) T) hr T.m_mix_of passL (pa_cons (pe_prF (pv 0) T.c_Mixing T.p_Mixing_base (ok_Mixing_base (K := K) T) hr passL) (pa_cons (pe_prF (pv 0) T.c_Mixing T.p_Mixing_bits (ok_Mixing_bits (K := K) T) hr passL) (pa_cons (pv 1) pa_nil)))) (pa_cons (pv 1) pa_nil)))))), ?_⟩
    have hx' := hx
    obtain ⟨dx, ha⟩ := hx'
    refine ⟨_, rfl, x, dx, _, rfl, ha, x, b, n, rfl, hx, ?_⟩
    refine ⟨_, rfl, x, dx, _, rfl, ha, x, b, n, rfl, hx, ?_⟩
    exact ⟨_, rfl, b, n, z, rfl, ⟨hb.b1, hb.b2⟩, ⟨hb.n1, hb.n2⟩, _, rfl, (by show 2 ≤ sizeLine; decide), fun p hp => q p hp⟩

def sp_place (K : Frag) : Sp := fun vs H Q _ => ∃ (x : Addr) (b n : Int) (z : Str), vs = [.ref x, .str z] ∧ MixAt K H x b n ∧ BN b n ∧ isKeyL z.cps.toList = true ∧
  ∀ H' p, Same H H' → H p = none → H' p = some (.tup [.int (mixL b n z.cps.toList), .str z]) → Q (.ref p) H'
theorem sc_place : FnScope ["mixing", "key"] ["mixing", "key"] (defScope s_place) := ⟨rfl, rfl, rfl, by decide +kernel, rfl, by decide +kernel, by decide +kernel⟩
theorem ok_place {P : Program} {w : World} {K : Frag} {mg : Str → Option Value} {base : Heap} (T : Txt K mg) : FnB P w K mg base 4 (glA "place" K) (sp_place K) := by
  refine okD (N := ["mixing", "key"]) (ps := ["mixing", "key"]) (k := 3) (d := g_place) T.d_place rfl sc_place (fun vs H Q E h => ?_) (fun _ _ _ _ _ _ us hl => match us, hl with | [_, _], _ => rfl) (fun cdv A outer s H vs Q E hr h => ?_)
  · obtain ⟨x, b, n, z, rfl, hx, hb, hz, q⟩ := h
    rfl
  · have hu := hu_of hr
    obtain ⟨x, b, n, z, rfl, hx, hb, hz, q⟩ := h
    refine ⟨_, PSs.nox ((pss_cons (ps_expr (pe_cF (ok_check_mixing (K := K) T) hr T.m_check_mixing passL (pa_cons (pv 0) pa_nil)))
      (pss_cons (ps_expr (pe_cF (ok_check_key (K := K) T) hr T.m_check_key passL (pa_cons (pv 1) pa_nil)))
      (pss_one (ps_ret (pe_cF (ok_place_of (K := K) T) hr T.m_place_of passL (pa_cons (pv 0) (pa_cons (pv 1) pa_nil)))))))), ?_⟩
    walk_at "nm"
    refine ⟨x, b, n, rfl, hx, ?_⟩
    refine ⟨z, rfl, hz, fun H1 s => ?_⟩
    refine ⟨x, b, n, z, rfl, hx.same s, hb, hz, fun p hp => ?_⟩
    exact q _ p (Same.upd s hp) (s.free hp) upd_same

def sp__law_hand (K : Frag) : Sp := fun vs H Q _ => ∃ (c : Addr) (ns : List Int) (k : Int), vs = [.ref c, .int k] ∧ SqL K H c (ns.map V.int) ∧ ns.length ≤ 1000 ∧ (0 ≤ k ∧ k ≤ 1000) ∧
  ∀ H' p, Same H H' → H p = none → PoolAt H' p → Q (.ref p) H'
theorem sc__law_hand : FnScope ["_law_script", "_law_k", "_law_cell", "_law_seed"] ["_law_script", "_law_k"] (defScope s__law_hand) := ⟨rfl, rfl, rfl, by decide +kernel, rfl, by decide +kernel, by decide +kernel⟩
theorem ok__law_hand {P : Program} {w : World} {K : Frag} {mg : Str → Option Value} {base : Heap} (T : Txt K mg) : FnB P w K mg base 1 (glA "_law_hand" K) (sp__law_hand K) := by
  refine okD (N := ["_law_script", "_law_k", "_law_cell", "_law_seed"]) (ps := ["_law_script", "_law_k"]) (k := 0) (d := g__law_hand) T.d__law_hand rfl sc__law_hand (fun vs H Q E h => ?_) (fun _ _ _ _ _ _ us hl => match us, hl with | [_, _], _ => rfl) (fun cdv A outer s H vs Q E hr h => ?_)
  · obtain ⟨c, ns, k, rfl, hc, hl, hk, q⟩ := h
    rfl
  · have hu := hu_of hr
    obtain ⟨c, ns, k, rfl, hc, hl, hk, q⟩ := h
    refine ⟨_, PSs.nox ((pss_cons (ps_set (i := 2) sc__law_hand.nd rfl (Or.inl rfl) (pe_ix ix_list (pe_op op_cat (pe_slice sl_list (pv 0) (po_some (pv 1)) (po_some (pe_op op_add (pv 1) pe_int))) (pe_lst (pa_cons pe_int pa_nil))) pe_int (fun _ _ => rfl)))
      (pss_cons (ps_set (i := 3) sc__law_hand.nd rfl (Or.inl rfl) (pe_op op_mod (pe_op op_mul (pe_op op_add (pe_op op_add (pe_op op_mod (pv 2) pe_int) (pe_op op_mul pe_int (pv 1))) pe_int) pe_int) pe_int))
      (pss_one (ps_ret (pe_lst (pa_cons (pe_op op_mul (pe_callTy call_int1 (by rfl) T.b_int (by decide +kernel) (pa_cons (pe_cmpR op_ge (pv 2) (pe_op op_pow pe_int pe_int) (nomark _)) pa_nil)) (pv 2)) (pa_cons (pv 3) pa_nil)))))))), ?_⟩
    walk_at "nm"
    refine ⟨c, _, rfl, hc, fun p1 hp1 => ?_⟩
    obtain ⟨l', el, hl'⟩ := cutV_int ns (some k) (some (k + 1))
    rw [el]
    refine ⟨(by rw [sizeLine_eq]; decide), fun p2 hp2 => ?_⟩
    refine ⟨p1, p2, _, _, rfl, rfl, upd_keep upd_same hp2, upd_same, (by rw [List.length_map, sizeLine_eq]; simp; omega), fun p3 hp3 => ?_⟩
    obtain ⟨v, ev⟩ := head_int l'
    refine ixL (SqL.of upd_same) ev ?_
    refine ⟨v, rfl, by decide, .inl ⟨by decide, by decide⟩, .inr ⟨by decide, by decide⟩, by decide, ⟨by decide, by decide, by decide⟩, v, rfl, .inr ⟨v, rfl, .inl ⟨?_, ?_⟩, ?_⟩⟩
    · split <;> decide
    · split <;> decide
    · refine ⟨(by rw [sizeLine_eq]; decide), fun p hp => ?_⟩
      have s1 : Same H (upd H p1 (.lst (l'.map V.int))) := Same.upd (Same.refl _) hp1
      have s2 := Same.upd (o := .lst [V.int 0]) s1 hp2
      have s3 := Same.upd (o := .lst (l'.map V.int ++ [V.int 0])) s2 hp3
      exact q _ p (Same.upd s3 hp) (s3.free hp) ⟨_, _, upd_same⟩

def sp__law_draw (K : Frag) : Sp := fun vs H Q _ => ∃ (a : Addr) (m : Int), vs = [.ref a, .int m] ∧ PoolAt H a ∧ 0 < m ∧ m < 1073741824 ∧
  ∀ v H', 0 ≤ v → v < m → PoolAt H' a → Ex a H H' → Q (.int v) H'
theorem sc__law_draw : FnScope ["_law_pool", "_law_size", "_law_found"] ["_law_pool", "_law_size"] (defScope s__law_draw) := ⟨rfl, rfl, rfl, by decide +kernel, rfl, by decide +kernel, by decide +kernel⟩
theorem ok__law_draw {P : Program} {w : World} {K : Frag} {mg : Str → Option Value} {base : Heap} (T : Txt K mg) : FnB P w K mg base 1 (glA "_law_draw" K) (sp__law_draw K) := by
  refine okD (N := ["_law_pool", "_law_size", "_law_found"]) (ps := ["_law_pool", "_law_size"]) (k := 0) (d := g__law_draw) T.d__law_draw rfl sc__law_draw (fun vs H Q E h => ?_) (fun _ _ _ _ _ _ us hl => match us, hl with | [_, _], _ => rfl) (fun cdv A outer s H vs Q E hr h => ?_)
  · obtain ⟨a, m, rfl, ⟨p, r, ha⟩, m0, m1, q⟩ := h
    rfl
  · have hu := hu_of hr
    obtain ⟨a, m, rfl, ⟨p, r, ha⟩, m0, m1, q⟩ := h
    refine ⟨_, PSs.nox ((pss_cons (ps_if (pt_cmpR op_gt (pe_ix ix_list (pv 0) pe_int (fun _ _ => rfl)) pe_int (nomark _))
        (pss_cons (ps_set (i := 2) sc__law_draw.nd rfl (Or.inl rfl) (pe_op op_mod (pe_ix ix_list (pv 0) pe_int (fun _ _ => rfl)) (pv 1)))
        (pss_cons (ps_asg (pe_op op_fdiv (pe_ix ix_list (pv 0) pe_int (fun _ _ => rfl)) (pv 1)) (pg_sub (pv 0) pe_int set_list))
        (pss_one (ps_ret (pv 2)))))
        pss_nil)
      (pss_cons (ps_asg (pe_op op_mod (pe_op op_add (pe_op op_mul (pe_ix ix_list (pv 0) pe_int (fun _ _ => rfl)) pe_int) pe_int) pe_int) (pg_sub (pv 0) pe_int set_list))
      (pss_one (ps_ret (pe_op op_mod (pe_op op_fdiv (pe_op op_mod (pe_op op_mul (pe_ix ix_list (pv 0) pe_int (fun _ _ => rfl)) (pe_ix ix_list (pv 0) pe_int (fun _ _ => rfl))) pe_int) pe_int) (pv 1))))))), ?_⟩
    walk_at "nm"
    refine ixL (SqL.of ha) rfl ⟨_, rfl, ?_⟩
    by_cases hp : 0 < p
    · rw [if_pos hp]
      refine ixL (SqL.of ha) rfl ⟨_, rfl, m0, ?_⟩
      refine ixL (SqL.of ha) rfl ⟨_, rfl, ⟨m0, m1⟩, ?_⟩
      refine setL ha rfl ?_
      exact q _ _ (Int.emod_nonneg _ (Int.ne_of_gt m0)) (Int.emod_lt_of_pos _ m0) ⟨_, _, upd_same⟩ Ex.refl.upd
    · rw [if_neg hp]
      refine ixL (SqL.of ha) rfl ⟨_, rfl, .inr ⟨by decide, by decide⟩, by decide, ?_⟩
      refine setL ha rfl ?_
      have e1 := Int.emod_nonneg (r * 48271 + 11) (show (2147483647 : Int) ≠ 0 by decide)
      have e2 := Int.emod_lt_of_pos (r * 48271 + 11) (show (0 : Int) < 2147483647 by decide)
      refine ixL (i := 1) (v := .int ((r * 48271 + 11) % 2147483647)) (SqL.of upd_same) rfl ?_
      refine ixL (i := 1) (v := .int ((r * 48271 + 11) % 2147483647)) (SqL.of upd_same) rfl ⟨_, rfl, _, rfl, .inl ⟨by omega, by omega⟩, by decide, ⟨by decide, by decide⟩, m0, ?_⟩
      exact q _ _ (Int.emod_nonneg _ (Int.ne_of_gt m0)) (Int.emod_lt_of_pos _ m0) ⟨_, _, upd_same⟩ Ex.refl.upd

def sp__law_mix (K : Frag) : Sp := sp_mix_of K
theorem sc__law_mix : FnScope ["_law_base", "_law_bits", "_law_key", "_law_found", "_law_sign"] ["_law_base", "_law_bits", "_law_key"] (defScope s__law_mix) := ⟨rfl, rfl, rfl, by decide +kernel, rfl, by decide +kernel, by decide +kernel⟩
theorem ok__law_mix {P : Program} {w : World} {K : Frag} {mg : Str → Option Value} {base : Heap} (T : Txt K mg) : FnB P w K mg base 1 (glA "_law_mix" K) (sp__law_mix K) := by
  refine okD (N := ["_law_base", "_law_bits", "_law_key", "_law_found", "_law_sign"]) (ps := ["_law_base", "_law_bits", "_law_key"]) (k := 0) (d := g__law_mix) T.d__law_mix rfl sc__law_mix (fun vs H Q E h => ?_) (fun _ _ _ _ _ _ us hl => match us, hl with | [_, _, _], _ => rfl) (fun cdv A outer s H vs Q E hr h => ?_)
  · obtain ⟨b, n, z, rfl, hb, hn, q⟩ := h
    rfl
  · have hu := hu_of hr
    obtain ⟨b, n, z, rfl, hb, hn, q⟩ := h
    refine ⟨_, PSs.nox ((pss_cons (ps_set (i := 3) sc__law_mix.nd rfl (Or.inl rfl) pe_int)
      (pss_cons (ps_for PassesOwn.never rfl (pi_str (pv 2)) (pg_name (i := 4) sc__law_mix.nd rfl (Or.inl rfl))
        (pss_one (ps_set (i := 3) sc__law_mix.nd rfl (Or.inl rfl) (pe_op op_mod (pe_op op_add (pe_op op_mul (pv 3) (pv 0)) (pe_callB call_ord (by rfl) T.b_ord (by decide +kernel) (pa_cons (pv 4) pa_nil))) (pe_op op_shl pe_int (pv 1))))))
      (pss_one (ps_ret (pv 3)))))), ?_⟩
    walk_at "nm"
    refine ⟨_, rfl, _, rfl, for_it walk_str (fun i σ H' => ∃ v, σ = [some (.int b), some (.int n), some (.str z), some (.int (mixL b n (z.cps.toList.take i))), v] ∧ H' = H) ⟨none, rfl, rfl⟩ (fun _ _ _ _ _ => trivial) ?_ ?_⟩
    · rintro i x σ H1 H2 hi ⟨v, rfl, rfl⟩ ⟨rfl, c, hc, rfl⟩
      have hc' : z.cps.toList[i]? = some c := by simpa using hc
      obtain ⟨m0, m1⟩ := mixL_range b n (z.cps.toList.take i)
      have p32 := pow32 hn.2
      walk_at "nm"
      refine ⟨.inl ⟨by omega, by omega⟩, rfl, ⟨by omega, by omega, by decide⟩, (by rw [Int.one_mul]; exact pow_pos2 _), ?_⟩
      rw [take_more hc', mixL_snoc, Int.one_mul]
      exact ⟨rfl, _, rfl⟩
    · rintro σ H1 ⟨v, rfl, rfl⟩
      walk_at "nm"
      rw [cps_len, List.take_length]
      exact q

def signsL : List Nat := [48, 49, 50, 51, 52, 53, 54, 55, 56, 57, 97, 98, 99, 100, 101, 102, 103, 104, 105, 106, 107, 108, 109, 110, 111, 112, 113, 114, 115, 116, 117, 118, 119, 120, 121, 122]
theorem signs_eq : (Str.ofString "0123456789abcdefghijklmnopqrstuvwxyz").cps.toList = signsL := by decide +kernel
theorem signs_len : (Str.ofString "0123456789abcdefghijklmnopqrstuvwxyz").length ≤ sizeLine := by decide +kernel
theorem signs_at : ∀ v, v < 36 → ∃ c, signsL[v]? = some c ∧ keySign c = true := by
  intro v hv
  have h : ∀ v, v < 36 → keySign (signsL.getD v 0) = true := by decide +kernel
  refine ⟨signsL.getD v 0, ?_, h v hv⟩
  have : v < signsL.length := hv
  rw [List.getD_eq_getElem?_getD, List.getElem?_eq_getElem this]
  rfl
theorem signs_atI {v : Int} (h0 : 0 ≤ v) (h1 : v < 36) : ∃ c, atI (Str.ofString "0123456789abcdefghijklmnopqrstuvwxyz").cps.toList v = some c ∧ keySign c = true := by
  obtain ⟨c, h, k⟩ := signs_at v.toNat (by omega)
  refine ⟨c, ?_, k⟩
  rw [signs_eq, show v = ((v.toNat : Nat) : Int) by omega]
  exact atI_nat h
theorem joinL_one : ∀ l : List Nat, TL.joinL [] (l.map fun c => [c]) = l
  | [] => rfl
  | [c] => rfl
  | c :: d :: r => by
    have ih := joinL_one (d :: r)
    show [c] ++ ([] ++ TL.joinL [] ((d :: r).map fun c => [c])) = _
    rw [ih]
    rfl
/-- the signs of a list of texts of one sign each, joined -/
theorem join_one (l : List Nat) : (Txt.join (Str.ofString "") (l.map fun c => (⟨#[c]⟩ : Str))).cps.toList = l := by
  have e : l.map (fun c => (⟨#[c]⟩ : Str)) = (l.map fun c => [c]).map SX.S := by
    rw [List.map_map]
    rfl
  have e0 : Str.ofString "" = SX.S [] := rfl
  rw [e, e0, SX.join_S, joinL_one]

def sp__law_long_key (K : Frag) : Sp := fun vs H Q _ => ∃ a : Addr, vs = [.ref a] ∧ PoolAt H a ∧ ∀ (z : Str) H', isKeyL z.cps.toList = true → PoolAt H' a → Ex a H H' → Q (.str z) H'
theorem sc__law_long_key : FnScope ["_law_pool", "_law_signs", "_law_turn"] ["_law_pool"] (defScope s__law_long_key) := ⟨rfl, rfl, rfl, by decide +kernel, rfl, by decide +kernel, by decide +kernel⟩
theorem ok__law_long_key {P : Program} {w : World} {K : Frag} {mg : Str → Option Value} {base : Heap} (T : Txt K mg) : FnB P w K mg base 2 (glA "_law_long_key" K) (sp__law_long_key K) := by
  refine okD (N := ["_law_pool", "_law_signs", "_law_turn"]) (ps := ["_law_pool"]) (k := 1) (d := g__law_long_key) T.d__law_long_key rfl sc__law_long_key (fun vs H Q E h => ?_) (fun _ _ _ _ _ _ us hl => match us, hl with | [_], _ => rfl) (fun cdv A outer s H vs Q E hr h => ?_)
  · obtain ⟨a, rfl, hp, q⟩ := h
    rfl
  · have hu := hu_of hr
    obtain ⟨a, rfl, hp, q⟩ := h
    refine ⟨_, PSs.nox ((pss_cons (ps_set (i := 1) sc__law_long_key.nd rfl (Or.inr rfl) pe_str)
      (pss_one (ps_ret (pe_join pe_str (pe_lc (own := [("_law_turn", 2)]) (g := gName 2) rfl sc__law_long_key.nd (pi_range1 (by rfl) T.b_range (pa_cons (pe_op op_add pe_int (pe_cF (ok__law_draw (K := K) T) hr T.m__law_draw passL (pa_cons (pv 0) (pa_cons pe_int pa_nil)))) pa_nil)) (blkOk_by (N := ["_law_pool", "_law_signs", "_law_turn"]) (sc := defScope s__law_long_key) (by decide +kernel)) (fun _ _ _ _ _ => pg_name (i := 2) sc__law_long_key.nd rfl (Or.inl rfl)) (fun _ _ _ _ _ => pts_nil) (fun _ _ _ _ _ => (pe_ix ix_str (pv 1) (pe_cF (ok__law_draw (K := K) T) hr T.m__law_draw passL (pa_cons (pv 0) (pa_cons pe_int pa_nil))) (fun _ _ => rfl))))))))), ?_⟩
    walk_at "nm"
    refine ⟨⟨_, rfl⟩, ?_⟩
    refine ⟨_, rfl, a, 20, rfl, hp, by decide, by decide, fun v H1 v0 v1 hp1 x1 => ?_⟩
    refine ⟨_, _, rfl, rfl, 1 + v, rfl, by omega, by omega, fun D hD => ?_⟩
    have hDa : D ≠ a := by
      obtain ⟨p, r, e⟩ := hp1
      exact (ne_of_none e hD).symm
    refine lc_it walk_range (fun i H2 => ∃ l : List Nat, H2 D = some (.lst (l.map fun c => V.str ⟨#[c]⟩)) ∧ l.length = i ∧ l.all keySign = true ∧ PoolAt H2 a ∧ Ex a H H2) ?_ (fun _ _ _ _ => trivial) ?_ ?_
    · obtain ⟨p, r, e⟩ := hp1
      exact ⟨[], upd_same, rfl, rfl, ⟨p, r, upd_keep e hD⟩, x1.new hD⟩
    · rintro i x H2 H3 hi ⟨l, hl, el, ok, hp2, x2⟩ ⟨rfl, rfl⟩
      refine ⟨rfl, ?_⟩
      dsimp only [tYes]
      rw [if_pos rfl]
      refine ⟨_, rfl, _, rfl, a, 36, rfl, hp2, by decide, by decide, fun w H4 w0 w1 hp4 x4 => ?_⟩
      obtain ⟨c, hc, kc⟩ := signs_atI w0 w1
      refine ⟨_, w, c, rfl, rfl, signs_len, hc, _, x4 _ _ hDa hl, ?_, l ++ [c], ?_, ?_, ?_, ?_, ?_⟩
      · rw [List.length_map, sizeLine_eq]
        omega
      · rw [upd_same, List.map_append]
        rfl
      · rw [List.length_append, el]
        rfl
      · rw [List.all_append, ok]
        simpa using kc
      · obtain ⟨p, r, e⟩ := hp4
        exact ⟨p, r, upd_other hDa.symm e⟩
      · intro b o hb e
        have h1 := x1 b o hb e
        have h4 := x4 b o hb (x2 b o hb e)
        rw [upd_ne (ne_of_none h1 hD)]
        exact h4
    · rintro H2 ⟨l, hl, el, ok, hp2, x2⟩
      refine ⟨_, rfl, D, rfl, l.map fun c => (⟨#[c]⟩ : Str), .inl (SqL.of ?_), ?_, ?_⟩
      · rw [hl, List.map_map]
        rfl
      · have e0 : (Str.ofString "").length = 0 := rfl
        rw [e0, Nat.mul_zero, Nat.add_zero, List.map_map]
        have e1 : (l.map ((fun x : Str => x.length) ∘ fun c => (⟨#[c]⟩ : Str))).sum = l.length := by
          have e2 : ((fun x : Str => x.length) ∘ fun c => (⟨#[c]⟩ : Str)) = fun _ => 1 := rfl
          rw [e2, List.map_const', List.sum_replicate_nat, Nat.mul_one]
        rw [e1]
        omega
      · refine q _ H2 ?_ hp2 x2
        rw [join_one]
        unfold isKeyL
        rw [ok, decide_eq_true (by omega), decide_eq_true (by omega)]
        rfl

section
variable {K : Frag} {mg : Str → Option Value}
/-- Mixing(b, n) -/
theorem mkMix {ta : TA} {σ : L2.St} {H : Hp} {Q : VK} {b n : Int} (hb : BN b n) (ha : ∀ Q' : List V → Hp → Prop, Q' [.int b, .int n] H → ta σ H Q') (q : ∀ x H', H x = none → MixAt K H' x b n → Same H H' → Q (.ref x) H') : tMake (ga K "Mixing") (sp_Mixing_init K) [] E0 ta σ H Q := by
  refine ha _ fun x dx nx ndx ne => ⟨x, dx, b, n, rfl, upd_same, hb, fun H' hm he => ⟨rfl, q x H' nx hm fun c o e => ?_⟩⟩
  exact he c o (ne_of_none e nx) (by rw [upd_ne (ne_of_none e nx), upd_ne (ne_of_none e ndx)]; exact e)
/-- == of two mixings -/
theorem eqMix {x y : Addr} {H : Hp} {b n b' n' : Int} {Q : VK} (T : Txt K mg) (hx : MixAt K H x b n) (hy : MixAt K H y b' n') (q : Q (.bl (decide (b = b') && decide (n = n'))) H) : rEqO K (ga K "Mixing") (sp_Mixing_eq K) E0 (.ref x) (.ref y) H Q := by
  have hx' := hx
  have hy' := hy
  obtain ⟨dx, h1⟩ := hx'
  obtain ⟨dy, h2⟩ := hy'
  exact ⟨x, dx, _, _, rfl, h1, .ins h2 T.o_Mixing, first_of T.f_Mixing (.ins h2 T.o_Mixing) (fun a D e => by cases e; rfl), x, b, n, .ref y, _, rfl, hx, .ins h2 T.o_Mixing, .inr ⟨y, b', n', rfl, rfl, hy, _, rfl, q⟩⟩
theorem neMix {x y : Addr} {H : Hp} {b n b' n' : Int} {Q : VK} (T : Txt K mg) (hx : MixAt K H x b n) (hy : MixAt K H y b' n') (q : Q (.bl (!(decide (b = b') && decide (n = n')))) H) : rNeO K (ga K "Mixing") (sp_Mixing_eq K) E0 (.ref x) (.ref y) H Q := by
  have hx' := hx
  have hy' := hy
  obtain ⟨dx, h1⟩ := hx'
  obtain ⟨dy, h2⟩ := hy'
  exact ⟨x, dx, _, _, rfl, h1, .ins h2 T.o_Mixing, first_of T.f_Mixing (.ins h2 T.o_Mixing) (fun a D e => by cases e; rfl), x, b, n, .ref y, _, rfl, hx, .ins h2 T.o_Mixing, .inr ⟨y, b', n', rfl, rfl, hy, _, rfl, q⟩⟩
/-- == of a mixing and what is no instance -/
theorem eqMixV {x : Addr} {y : V} {k : Kn} {H : Hp} {b n : Int} {Q : VK} (T : Txt K mg) (hx : MixAt K H x b n) (hy : Is K H y k) (hk : ∀ a D, k ≠ .ins a D) (q : Q (.bl false) H) : rEqO K (ga K "Mixing") (sp_Mixing_eq K) E0 (.ref x) y H Q := by
  have hx' := hx
  obtain ⟨dx, h1⟩ := hx'
  refine ⟨x, dx, _, _, rfl, h1, hy, first_of T.f_Mixing hy (fun a D e => absurd e (hk a D)), x, b, n, y, _, rfl, hx, hy, .inl ⟨?_, hk, _, rfl, q⟩⟩
  cases hy with
  | ins e c => exact absurd rfl (hk _ _)
  | _ => rfl
/-- none of the odd values is a key -/
theorem odd_loop {D : Ends} {a0 a1 a2 a3 a4 a5 a7 a8 a9 a10 : Option V} {H : Hp} {p : Addr} {xs : List V} (hx : H p = some (.lst xs)) (ho : ∀ y ∈ xs, ∃ k, Is K H y k ∧ k.small ∧ k.isKey = false)
    (hn : ∀ v H', Same H H' → D.nx [a0, a1, a2, a3, a4, a5, some (.ref p), v, a8, a9, a10] H') :
    tFor (iList K (tVar 6)) (gName 7) (tIfS (tTest (tOp (fun x y H Q => ∃ a, x = V.bl a ∧ ∃ x, y = V.bl x ∧ Q (V.bl !decide (a = x)) H) (tCall (sp_is_key K) [] E0 (tCons (tVar 7) tNil)) (tC (V.bl false)))) (tRet (tC (V.bl false))) tNext) D
      [a0, a1, a2, a3, a4, a5, some (.ref p), a7, a8, a9, a10] H := by
  refine ⟨_, rfl, p, rfl, ⟨_, SqL.of hx⟩, for_list (K := K) (a := p) (xs := xs) (fun j σ' H' => (∃ v, σ' = [a0, a1, a2, a3, a4, a5, some (.ref p), v, a8, a9, a10]) ∧ Same H H') ⟨⟨_, rfl⟩, Same.refl _⟩ (fun j σ' H' _ p => SqL.of (p.2 _ _ hx)) ?_ ?_⟩
  · rintro j y σ' H' hj ⟨⟨v, rfl⟩, s⟩
    obtain ⟨k, hk, ks, kk⟩ := ho y (List.mem_of_getElem? hj)
    walk_at "nm"
    refine ⟨y, k, rfl, hk.same s, ks, fun H'' s' => ⟨_, rfl, ?_⟩⟩
    rw [kk, if_neg (by simp)]
    exact ⟨⟨_, rfl⟩, s.trans s'⟩
  · rintro σ' H' ⟨⟨v, rfl⟩, s⟩
    exact hn v H' s
/-- repr(m) -/
theorem reprMix {x : Addr} {H : Hp} {b n : Int} {Q : VK} (hx : MixAt K H x b n) (hb : BN b n) (q : Q (.str (mixText b n)) H) : rRepr (ga K "Mixing") (sp_Mixing_repr K) E0 [.ref x] H Q := by
  have hx' := hx
  obtain ⟨dx, h1⟩ := hx'
  exact ⟨x, dx, _, rfl, h1, x, b, n, rfl, hx, hb, _, rfl, q⟩
end

def spLaw (K : Frag) : Sp := fun vs H Q _ => ∃ (a : Addr) (ns : List Int), vs = [.ref a] ∧ SqL K H a (ns.map V.int) ∧ ns.length ≤ 63 ∧ ∀ H', Q (.bl true) H'
abbrev sp_law := spLaw
theorem sc_law : FnScope ["_law_script", "_law_k", "_law_pool", "_law_mixing", "_law_turn", "_law_key", "_law_some", "_law_odd", "_law_base", "_law_bits", "_law_due"] ["_law_script"] (defScope s_law) := ⟨rfl, rfl, rfl, by decide +kernel, rfl, by decide +kernel, by decide +kernel⟩
theorem ok_law {P : Program} {w : World} {K : Frag} {mg : Str → Option Value} (T : Txt K mg) : ∃ fd, (∀ (s : Shared) (u : Value), BindsTo s fd ⟨[u], []⟩ [("_law_script", u)]) ∧ ∀ base : Heap, FnOk P w K mg base CX0 6 (glA "law" K) fd ["_law_script"] (sp_law K) := by
  refine okLaw (N := ["_law_script", "_law_k", "_law_pool", "_law_mixing", "_law_turn", "_law_key", "_law_some", "_law_odd", "_law_base", "_law_bits", "_law_due"]) (k := 5) (d := g_law) T.d_law rfl sc_law (fun vs H Q E h => ?_) (fun _ _ _ _ _ _ us hl => match us, hl with | [_], _ => rfl) (fun base cdv A outer s H vs Q E hr h => ?_)
  · obtain ⟨a, ns, rfl, hS, hlen, q⟩ := h
    rfl
  · have hu := hu_of hr
    obtain ⟨a, ns, rfl, hS, hlen, q⟩ := h
    refine ⟨_, PSs.nox ((pss_cons (ps_if (pt_cmpR (op_neD (hu64 hr)) (pe_lst (pa_cons (pe_gc (by rfl) (gint T.v_MAX_BASE)) (pa_cons (pe_gc (by rfl) (gint T.v_MAX_BITS)) (pa_cons (pe_gc (by rfl) (gint T.v_MAX_LENGTH)) (pa_cons (pe_gc (by rfl) (gint T.v_MAX_NUMBER)) pa_nil))))) (pe_lst (pa_cons pe_int (pa_cons pe_int (pa_cons pe_int (pa_cons (pe_op op_pow pe_int pe_int) pa_nil))))) (nomark _))
        (pss_one (ps_ret pe_bl))
        pss_nil)
      (pss_cons (ps_for PassesOwn.never rfl (pi_range1 (by rfl) T.b_range (pa_cons (pe_callB (call_max2 rfl) (by rfl) T.b_max (by decide +kernel) (pa_cons pe_int (pa_cons (pe_callB (call_min2 rfl) (by rfl) T.b_min (by decide +kernel) (pa_cons (pe_callB call_len_seq (by rfl) T.b_len (by decide +kernel) (pa_cons (pv 0) pa_nil)) (pa_cons pe_int pa_nil))) pa_nil))) pa_nil)) (pg_name (i := 1) sc_law.nd rfl (Or.inl rfl))
        (pss_cons (ps_set (i := 2) sc_law.nd rfl (Or.inl rfl) (pe_cF (ok__law_hand (K := K) T) hr T.m__law_hand passL (pa_cons (pv 0) (pa_cons (pv 1) pa_nil))))
        (pss_cons (ps_par (i := 8) (j := 9) (by rfl) sc_law.nd rfl rfl (by decide) rfl rfl (pa_cons (pe_op op_add pe_int (pe_cF (ok__law_draw (K := K) T) hr T.m__law_draw passL (pa_cons (pv 2) (pa_cons pe_int pa_nil)))) (pa_cons (pe_op op_add pe_int (pe_cF (ok__law_draw (K := K) T) hr T.m__law_draw passL (pa_cons (pv 2) (pa_cons pe_int pa_nil)))) pa_nil)) (by rfl))
        (pss_cons (ps_set (i := 3) sc_law.nd rfl (Or.inl rfl) (pe_mkF T.k_Mixing (ok_Mixing_init (K := K) T) hr T.m_Mixing passL (pa_cons (pv 8) (pa_cons (pv 9) pa_nil))))
        (pss_cons (ps_if (PW.pt (pw_or (pt_cmpR (op_neD (hu64 hr)) (pe_lst (pa_cons (pe_prF (pv 3) T.c_Mixing T.p_Mixing_base (ok_Mixing_base (K := K) T) hr passL) (pa_cons (pe_prF (pv 3) T.c_Mixing T.p_Mixing_bits (ok_Mixing_bits (K := K) T) hr passL) pa_nil))) (pe_lst (pa_cons (pv 8) (pa_cons (pv 9) pa_nil))) (nomark _)) (pw_or1 (pt_cmpR op_ne (pe_callB (call_reprO T.e_Mixing_repr (ok_Mixing_repr (K := K) T) hr passL) (by rfl) T.b_repr (by decide +kernel) (pa_cons (pv 3) pa_nil)) (pe_joined (pj_cons pe_str (pj_cons (pe_fmt (pv 8)) (pj_cons pe_str (pj_cons (pe_fmt (pv 9)) (pj_cons pe_str pj_nil)))))) (nomark _)))))
          (pss_one (ps_ret pe_bl))
          pss_nil)
        (pss_cons (ps_if (PW.pt (pw_or (pt_cmpR (op_neO T.e_Mixing_eq T.x_Mixing_ne (ok_Mixing_eq (K := K) T) hr passL) (pv 3) (pe_mkF T.k_Mixing (ok_Mixing_init (K := K) T) hr T.m_Mixing passL (pa_cons (pv 8) (pa_cons (pv 9) pa_nil))) (nomark _)) (pw_or1 (pt_cmpR (op_eqO T.e_Mixing_eq (ok_Mixing_eq (K := K) T) hr passL) (pv 3) (pe_mkF T.k_Mixing (ok_Mixing_init (K := K) T) hr T.m_Mixing passL (pa_cons (pv 8) (pa_cons (pe_op op_add pe_int (pe_op op_mod (pv 9) pe_int)) pa_nil))) (nomark _)))))
          (pss_one (ps_ret pe_bl))
          pss_nil)
        (pss_cons (ps_if (pt_cmpR (op_eqO T.e_Mixing_eq (ok_Mixing_eq (K := K) T) hr passL) (pv 3) (pe_mkF T.k_Mixing (ok_Mixing_init (K := K) T) hr T.m_Mixing passL (pa_cons (pe_op op_add pe_int (pe_op op_mod (pv 8) pe_int)) (pa_cons (pv 9) pa_nil))) (nomark _))
          (pss_one (ps_ret pe_bl))
          pss_nil)
        (pss_cons (ps_if (PW.pt (pw_or (pt_cmpR (op_eqO T.e_Mixing_eq (ok_Mixing_eq (K := K) T) hr passL) (pv 3) (pe_tup (pa_cons (pv 8) (pa_cons (pv 9) pa_nil))) (nomark _)) (pw_or1 (pt_cmpR (op_eqO T.e_Mixing_eq (ok_Mixing_eq (K := K) T) hr passL) (pv 3) (pe_callB (call_reprO T.e_Mixing_repr (ok_Mixing_repr (K := K) T) hr passL) (by rfl) T.b_repr (by decide +kernel) (pa_cons (pv 3) pa_nil)) (nomark _)))))
          (pss_one (ps_ret pe_bl))
          pss_nil)
        (pss_cons (ps_for PassesOwn.never rfl (pi_range1 (by rfl) T.b_range (pa_cons pe_int pa_nil)) (pg_name (i := 4) sc_law.nd rfl (Or.inl rfl))
          (pss_cons (ps_set (i := 5) sc_law.nd rfl (Or.inl rfl) (pe_cF (ok__law_long_key (K := K) T) hr T.m__law_long_key passL (pa_cons (pv 2) pa_nil)))
          (pss_cons (ps_set (i := 10) sc_law.nd rfl (Or.inl rfl) (pe_cF (ok__law_mix (K := K) T) hr T.m__law_mix passL (pa_cons (pv 8) (pa_cons (pv 9) (pa_cons (pv 5) pa_nil)))))
          (pss_one (ps_if (PW.pt (pw_or (pt_cmpR op_ne (pe_coF (pv 3) T.e_Mixing_call T.y_Mixing_call (ok_Mixing_call (K := K) T) hr passL (pa_cons (pv 5) pa_nil)) (pv 10) (nomark _)) (pw_or (pt_cmpR (op_neD (hu64 hr)) (pe_cF (ok_place (K := K) T) hr T.m_place passL (pa_cons (pv 3) (pa_cons (pv 5) pa_nil))) (pe_tup (pa_cons (pv 10) (pa_cons (pv 5) pa_nil))) (nomark _)) (pw_or1 (pt_cmpR op_isnot_bl (pe_cF (ok_is_key (K := K) T) hr T.m_is_key passL (pa_cons (pv 5) pa_nil)) pe_bl (nomark _))))))
            (pss_one (ps_ret pe_bl))
            pss_nil)))))
        (pss_cons (ps_set (i := 5) sc_law.nd rfl (Or.inl rfl) (pe_cF (ok__law_long_key (K := K) T) hr T.m__law_long_key passL (pa_cons (pv 2) pa_nil)))
        (pss_cons (ps_set (i := 6) sc_law.nd rfl (Or.inl rfl) (pe_lst (pa_cons pe_non (pa_cons pe_int (pa_cons pe_str (pa_cons (pe_op op_add_str (pv 5) (pe_op op_rep_str pe_str pe_int)) (pa_cons (pe_op op_add_str (pv 5) pe_str) (pa_cons (pe_op op_add_str (pe_slice C8.sl_txt (pv 5) po_none (po_some pe_int)) pe_str) (pa_cons (pe_op op_add_str (pe_slice C8.sl_txt (pv 5) po_none (po_some pe_int)) pe_str) (pa_cons (pe_lst (pa_cons pe_str pa_nil)) (pa_cons (pe_tup (pa_cons pe_str pa_nil)) (pa_cons pe_dnewK pa_nil))))))))))))
        (pss_one (ps_for PassesOwn.never rfl (pi_list (pv 6)) (pg_name (i := 7) sc_law.nd rfl (Or.inl rfl))
          (pss_one (ps_if (pt_cmpR op_isnot_bl (pe_cF (ok_is_key (K := K) T) hr T.m_is_key passL (pa_cons (pv 7) pa_nil)) pe_bl (nomark _))
            (pss_one (ps_ret pe_bl))
            pss_nil)))))))))))))))
      (pss_one (ps_ret pe_bl))))), ?_⟩
    walk_at "nm"
    refine ⟨(by rw [sizeLine_eq]; decide), fun p1 h1 => ⟨⟨by decide, by decide, by decide⟩, (by rw [sizeLine_eq]; decide), fun p2 h2 => ?_⟩⟩
    rw [show (2 : Int) ^ Int.toNat 32 = 4294967296 by decide]
    refine neInts [1000, 32, 20, 4294967296] (upd_keep upd_same h2) upd_same ⟨_, rfl, iteF ?_⟩
    have s0 : Same H (upd (upd H p1 (.lst [V.int 1000, V.int 32, V.int 20, V.int 4294967296])) p2 (.lst [V.int 1000, V.int 32, V.int 20, V.int 4294967296])) := Same.upd (Same.upd (Same.refl _) h1) h2
    refine ⟨_, rfl, a, rfl, _, .inl (s0.seq hS), _, _, rfl, _, _, rfl, _, rfl, ?_, ?_, for_range (fun i σ H' => (∃ v1 v2 v3 v4 v5 v6 v7 v8 v9 v10, σ = [some (.ref a), v1, v2, v3, v4, v5, v6, v7, v8, v9, v10]) ∧ Same H H') ⟨⟨_, _, _, _, _, _, _, _, _, _, rfl⟩, s0⟩ ?_ ?_⟩
    · split <;> split <;> omega
    · split <;> split <;> omega
    · rintro i σ H1 hi ⟨⟨v1, v2, v3, v4, v5, v6, v7, v8, v9, v10, rfl⟩, s1⟩
      have hi16 : i < 16 := by
        rw [List.length_map] at hi
        split at hi <;> split at hi <;> omega
      walk_at "nm"
      refine ⟨a, ns, _, rfl, s1.seq hS, by omega, ⟨by omega, by omega⟩, fun H2 pl s2 npl hp2 => ?_⟩
      walk_at "nm"
      have n0 : H pl = none := s1.free npl
      have sA : Same H H2 := s1.trans s2
      refine ⟨pl, 1000, rfl, hp2, by decide, by decide, fun b0 H3 b00 b01 hp3 x3 => ⟨_, rfl, ?_⟩⟩
      have sB : Same H H3 := Ex.same_free sA n0 x3
      refine ⟨pl, 32, rfl, hp3, by decide, by decide, fun n1 H4 n10 n11 hp4 x4 => ⟨_, rfl, _, _, ⟨rfl, rfl⟩, ?_⟩⟩
      have sC : Same H H4 := Ex.same_free sB n0 x4
      have bn : BN (1 + b0) (1 + n1) := ⟨by omega, by omega, by omega, by omega⟩
      generalize 1 + b0 = b at bn ⊢
      generalize 1 + n1 = n at bn ⊢
      obtain ⟨bb1, bb2, nn1, nn2⟩ := id bn
      refine mkMix bn (fun Q' q' => ⟨_, rfl, _, rfl, q'⟩) fun x H5 nx hm5 s5 => ?_
      obtain ⟨dx, hx5⟩ := id hm5
      refine ⟨_, rfl, x, dx, _, rfl, hx5, x, b, n, rfl, hm5, ?_⟩
      refine ⟨_, rfl, x, dx, _, rfl, hx5, x, b, n, rfl, hm5, ?_⟩
      refine ⟨(by rw [sizeLine_eq]; decide), fun p3 h3 => ⟨(by rw [sizeLine_eq]; decide), fun p4 h4 => ?_⟩⟩
      refine neInts [b, n] (upd_keep upd_same h4) upd_same ⟨_, rfl, iteF ?_⟩
      have s6 : Same H5 (upd (upd H5 p3 (.lst [V.int b, V.int n])) p4 (.lst [V.int b, V.int n])) := Same.upd (Same.upd (Same.refl _) h3) h4
      generalize upd (upd H5 p3 (.lst [V.int b, V.int n])) p4 (.lst [V.int b, V.int n]) = H6 at s6 ⊢
      have hm6 := hm5.same s6
      refine reprMix hm6 bn ?_
      refine mix_js bn (fun Q' q' => ⟨_, rfl, q'⟩) (fun Q' q' => ⟨_, rfl, q'⟩) ?_
      refine ⟨rfl, _, rfl, iteF' (by simp) ?_⟩
      refine mkMix bn (fun Q' q' => ⟨_, rfl, _, rfl, q'⟩) fun y7 H7 _ hm7 s7 => ?_
      have hm6 := hm6.same s7
      refine neMix T hm6 hm7 ⟨_, rfl, iteF' (by simp) ?_⟩
      refine mkMix (b := b) (n := 1 + n % 32) ⟨bb1, bb2, by omega, by omega⟩ (fun Q' q' => ⟨_, rfl, _, rfl, _, _, rfl, rfl, (show (0 : Int) < 32 by decide), _, _, rfl, rfl, q'⟩) fun y8 H8 _ hm8 s8 => ?_
      have hm6 := hm6.same s8
      refine eqMix T hm6 hm8 ⟨_, rfl, iteF' (by rw [decide_eq_false (p := n = 1 + n % 32) (by omega)]; simp) ?_⟩
      refine mkMix (b := 1 + b % 1000) (n := n) ⟨by omega, by omega, nn1, nn2⟩ (fun Q' q' => ⟨_, rfl, _, _, rfl, rfl, (show (0 : Int) < 1000 by decide), _, _, rfl, rfl, _, rfl, q'⟩) fun y9 H9 _ hm9 s9 => ?_
      have hm6 := hm6.same s9
      refine eqMix T hm6 hm9 ⟨_, rfl, iteF' (by rw [decide_eq_false (p := b = 1 + b % 1000) (by omega)]; rfl) ?_⟩
      refine ⟨(by rw [sizeLine_eq]; decide), fun p10 h10 => ?_⟩
      have s10 : Same H9 (upd H9 p10 (.tup [V.int b, V.int n])) := Same.upd (Same.refl _) h10
      have ht10 : (upd H9 p10 (.tup [V.int b, V.int n])) p10 = some (.tup [V.int b, V.int n]) := upd_same
      generalize upd H9 p10 (.tup [V.int b, V.int n]) = H10 at s10 ht10 ⊢
      have hm6 := hm6.same s10
      refine eqMixV T hm6 (.tup ht10) (fun _ _ e => by cases e) ⟨_, rfl, iteF ?_⟩
      refine reprMix hm6 bn ?_
      refine eqMixV T hm6 (.str _) (fun _ _ e => by cases e) ⟨_, rfl, iteF ?_⟩
      have s410 : Same H4 H10 := s5.trans (s6.trans (s7.trans (s8.trans (s9.trans s10))))
      have hp10 := hp4.same s410
      have sD : Same H H10 := sC.trans s410
      refine ⟨6, rfl, by decide, by decide, for_range (fun j σ H' => (∃ v4 v5 v10, σ = [some (.ref a), some (.int (0 + i)), some (.ref pl), some (.ref x), v4, v5, v6, v7, some (.int b), some (.int n), v10]) ∧ PoolAt H' pl ∧ MixAt K H' x b n ∧ Same H H') ⟨⟨_, _, _, rfl⟩, hp10, hm6, sD⟩ ?_ ?_⟩
      · rintro j σ H11 hj ⟨⟨w4, w5, w10, rfl⟩, hp11, hm11, s11⟩
        have nxp : x ≠ pl := hm11.ne_pool hp11
        walk_at "nm"
        refine ⟨pl, rfl, hp11, fun z H12 hz hp12 x12 => ?_⟩
        have hm12 := hm11.ex x12 nxp
        have s12 := Ex.same_free s11 n0 x12
        walk_at "nm"
        refine ⟨b, n, z, rfl, ⟨bb1, bb2⟩, ⟨nn1, nn2⟩, ?_⟩
        obtain ⟨dx', hx12⟩ := id hm12
        refine ⟨_, rfl, x, rfl, _, rfl, ⟨dx', _, hx12⟩, x, b, n, z, rfl, hm12, bn, hz, fun H13 s13 => ?_⟩
        refine ⟨rfl, _, rfl, iteF' (by simp) ?_⟩
        refine ⟨x, b, n, z, rfl, hm12.same s13, bn, hz, fun H14 p14 s14 np14 hp14 => ?_⟩
        refine ⟨(by rw [sizeLine_eq]; decide), fun p15 h15 => ?_⟩
        refine nePlace (strOk_key hz) (upd_keep hp14 h15) upd_same ⟨_, rfl, iteF ?_⟩
        refine ⟨_, .str z, rfl, .str z, key_small hz, fun H16 s16 => ⟨_, rfl, ?_⟩⟩
        rw [show (Kn.str z).isKey = true from hz, if_neg (by simp)]
        have s1216 : Same H12 H16 := s13.trans (s14.trans ((Same.upd (Same.refl _) h15).trans s16))
        exact ⟨⟨_, rfl⟩, hp12.same s1216, hm12.same s1216, s12.trans s1216⟩
      · rintro σ H11 ⟨⟨w4, w5, w10, rfl⟩, hp11, hm11, s11⟩
        walk_at "nm"
        refine ⟨pl, rfl, hp11, fun z H12 hz hp12 x12 => ?_⟩
        have s12 := Ex.same_free s11 n0 x12
        obtain ⟨l1, l2⟩ := key_len hz
        have l3 := str_len z
        have lA : (Str.ofString "A").length = 1 := by decide +kernel
        have lB : (Str.ofString "!").length = 1 := by decide +kernel
        have lC : (Str.ofString " ").length = 1 := by decide +kernel
        have lM : (Txt.mul (Str.ofString "a") ((20 : Nat) : Int)).length = 20 := by decide +kernel
        have lS : (Txt.slice z none (some 19)).length ≤ z.length := slice_to_len z 19
        refine ⟨_, 20, rfl, rfl, by decide +kernel, by decide +kernel, by decide, ?_⟩
        refine ⟨z, rfl, _, rfl, (by rw [lM, sizeLine_eq]; omega), z, rfl, (by rw [lA, sizeLine_eq]; omega), ?_⟩
        refine ⟨z, rfl, (by rw [sizeLine_eq]; omega), _, rfl, (by rw [lB, sizeLine_eq]; omega), ?_⟩
        refine ⟨z, rfl, (by rw [sizeLine_eq]; omega), _, rfl, (by rw [lC, sizeLine_eq]; omega), ?_⟩
        refine ⟨(by rw [sizeLine_eq]; decide), fun p13 h13 => ⟨(by rw [sizeLine_eq]; decide), fun p14 h14 => ?_⟩⟩
        intro p15 h15
        refine ⟨(by rw [sizeLine_eq]; decide), fun p16 h16 => ?_⟩
        have sT := Same.upd (o := .lst [V.non, V.int 5, V.str (Str.ofString ""), V.str (z ++ Txt.mul (Str.ofString "a") ((20 : Nat) : Int)), V.str (z ++ Str.ofString "A"), V.str (Txt.slice z none (some 19) ++ Str.ofString "!"),
              V.str (Txt.slice z none (some 19) ++ Str.ofString " "), V.ref p13, V.ref p14, V.ref p15]) (Same.upd (o := .dK []) (Same.upd (o := .tup [V.str (Str.ofString "a")]) (Same.upd (o := .lst [V.str (Str.ofString "a")]) (Same.refl _) h13) h14) h15) h16
        refine odd_loop upd_same ?_ fun v H' s' => ⟨⟨_, _, _, _, _, _, _, _, _, _, rfl⟩, s12.trans (sT.trans s')⟩
        have lMt : (Txt.mul (Str.ofString "a") ((20 : Nat) : Int)).cps.toList.length = 20 := by rw [← str_len]; exact lM
        refine List.forall_mem_cons.mpr ⟨⟨_, .non, trivial, rfl⟩, List.forall_mem_cons.mpr ⟨⟨_, .int 5, trivial, rfl⟩, List.forall_mem_cons.mpr ⟨⟨_, .str _, str_small (n := 0) (by decide +kernel) (by decide), (by decide +kernel)⟩, List.forall_mem_cons.mpr ⟨⟨_, .str _, str_small (n := 40) (by rw [Str.length_append, lM]; omega) (by decide), notKey_long (by omega) (by omega)⟩, ?_⟩⟩⟩⟩
        refine List.forall_mem_cons.mpr ⟨⟨_, .str _, str_small (n := 40) (by rw [Str.length_append, lA]; omega) (by decide), notKey_snoc (c := 65) (by decide +kernel) (by decide +kernel)⟩, ?_⟩
        refine List.forall_mem_cons.mpr ⟨⟨_, .str _, str_small (n := 40) (by rw [Str.length_append, lB]; omega) (by decide), notKey_snoc (c := 33) (by decide +kernel) (by decide +kernel)⟩, ?_⟩
        refine List.forall_mem_cons.mpr ⟨⟨_, .str _, str_small (n := 40) (by rw [Str.length_append, lC]; omega) (by decide), notKey_snoc (c := 32) (by decide +kernel) (by decide +kernel)⟩, ?_⟩
        refine List.forall_mem_cons.mpr ⟨⟨_, .lst (upd_keep (upd_keep (upd_keep upd_same h14) h15) h16), trivial, rfl⟩, ?_⟩
        refine List.forall_mem_cons.mpr ⟨⟨_, .tup (upd_keep (upd_keep upd_same h15) h16), trivial, rfl⟩, ?_⟩
        refine List.forall_mem_cons.mpr ⟨⟨_, .dct (upd_keep upd_same h16), trivial, rfl⟩, ?_⟩
        exact fun y hy => absurd hy (List.not_mem_nil)
    · rintro σ H1 ⟨⟨v1, v2, v3, v4, v5, v6, v7, v8, v9, v10, rfl⟩, s1⟩
      exact q H1

theorem law_end {P : Program} {w : World} {K : Frag} {mg : Str → Option Value} (T : Txt K mg) :
    ∃ (fd : FuncData) (sp : Sp), (∀ (s : Shared) (u : Value), BindsTo s fd ⟨[u], []⟩ [("_law_script", u)]) ∧
      (∀ (H : Hp) (a : Addr) (ns : List Int), ns.length ≤ 63 → Only H → SqL K H a (ns.map V.int) → sp [.ref a] H (fun v _ => v = .bl true) fun _ _ _ => False) ∧
      ∀ base : Heap, K.In base → base.Ns mainGlobals mg → FnOk P w K mg base CX0 6 (ga K "law") fd ["_law_script"] sp := by
  obtain ⟨fd, b, F⟩ := ok_law (P := P) (w := w) T
  exact ⟨fd, sp_law K, b, fun H a ns hl _ hS => ⟨a, ns, rfl, hS, hl, fun _ => rfl⟩, fun base _ _ => F base⟩

set_option maxHeartbeats 0
def fa0 : List Fa := [.glo "is_integer", .glo "in_range", .glo "check_number", .glo "is_key", .glo "check_key", .glo "mix_of", .glo "check_mixing", .glo "place_of", .glo "place", .glo "_law_hand", .glo "_law_draw", .glo "_law_mix", .glo "_law_long_key", .glo "law", .glo "InvalidNumber", .glo "InvalidKey", .glo "InvalidMixing", .glo "Mixing", .cls "Mixing", .mkr "Mixing", .noat "Mixing" "own_base", .noat "Mixing" "own_bits", .meth "Mixing" "__call__", .meth "Mixing" "__eq__", .meth "Mixing" "__repr__", .int "MAX_BASE" 1000, .int "MAX_BITS" 32, .int "MAX_NUMBER" 4294967296, .int "MAX_LENGTH" 20, .str "CHARACTERS" "abcdefghijklmnopqrstuvwxyz0123456789"]
def fa1 : List Fa := [.free "ValueError", .free "all", .free "bool", .free "int", .free "isinstance", .free "len", .free "max", .free "min", .free "ord", .free "property", .free "range", .free "repr", .free "str"]
def fa : List Fa := fa0 ++ fa1
def fn0 : List DefG := [g_is_integer, g_in_range, g_check_number, g_is_key, g_check_key, g_mix_of, g_check_mixing, g_place_of, g_place, g__law_hand, g__law_draw, g__law_mix, g__law_long_key, g_law, g_InvalidNumber_init, g_InvalidKey_init, g_InvalidMixing_init, g_Mixing_init, g_Mixing_base, g_Mixing_bits, g_Mixing_call, g_Mixing_eq, g_Mixing_repr]
def fn : List DefG := fn0
def loose0 : List Str := ["InvalidNumber", "InvalidKey", "InvalidMixing", "MAX_BASE", "MAX_BITS", "MAX_NUMBER", "MAX_LENGTH", "CHARACTERS", "is_integer", "in_range", "check_number", "is_key", "check_key", "mix_of", "Mixing", "check_mixing", "place_of", "place", "_law_hand", "_law_draw", "_law_mix", "_law_long_key"]
def loose : List Str := loose0
def ex (K : Frag) : Bool := propB "Mixing" "base" K && (propB "Mixing" "bits" K && (ownCB "Mixing" K && (ownKB "Mixing" K && (firstB "Mixing" K && (noNeB "Mixing" K && (fnInB "Mixing" "__call__" K && (true)))))))
abbrev R : PySem.W.OpenRow := PySem.W.OpenLaw.row PySem.Challenge.rw_arccursors_k01_keys_and_mixings
abbrev hk : PySem.W.Hook := hookG 7 fa ex fn
def ob (s : PySem.W.SharedT) : AlG := obsGG 7 fa ex fn (HandSHeadRun.getT s)
theorem ob_eq (s : PySem.W.SharedT) : ob s = hk.obs s.abs := obsGG_eq (HandSHeadRun.getT_eq s)
theorem run (w : World) : HandSHeadRun.RunEq R (PySem.W.view R.prog [25]) hk ob 20000 loose w := by
  intro os
  kernel_rfl
theorem txt {K : Frag} {h : Heap} {mg : Str → Option Value} (X : K.In h) (G : h.Ns mainGlobals mg) (c : SaysG fa ex fn K) : Txt K mg := by
  have m0 := c.more
  unfold ex at m0
  obtain ⟨x0, m1⟩ := ba m0
  obtain ⟨x1, m2⟩ := ba m1
  obtain ⟨x2, m3⟩ := ba m2
  obtain ⟨x3, m4⟩ := ba m3
  obtain ⟨x4, m5⟩ := ba m4
  obtain ⟨x5, m6⟩ := ba m5
  obtain ⟨x6, m7⟩ := ba m6
  exact {
    d_is_integer := c.def_ 0,
    d_in_range := c.def_ 1,
    d_check_number := c.def_ 2,
    d_is_key := c.def_ 3,
    d_check_key := c.def_ 4,
    d_mix_of := c.def_ 5,
    d_check_mixing := c.def_ 6,
    d_place_of := c.def_ 7,
    d_place := c.def_ 8,
    d__law_hand := c.def_ 9,
    d__law_draw := c.def_ 10,
    d__law_mix := c.def_ 11,
    d__law_long_key := c.def_ 12,
    d_law := c.def_ 13,
    d_InvalidNumber_init := c.def_ 14,
    d_InvalidKey_init := c.def_ 15,
    d_InvalidMixing_init := c.def_ 16,
    d_Mixing_init := c.def_ 17,
    d_Mixing_base := c.def_ 18,
    d_Mixing_bits := c.def_ 19,
    d_Mixing_call := c.def_ 20,
    d_Mixing_eq := c.def_ 21,
    d_Mixing_repr := c.def_ 22,
    m_is_integer := glo_ok X G (c.fact 0 (f := .glo "is_integer")),
    m_in_range := glo_ok X G (c.fact 1 (f := .glo "in_range")),
    m_check_number := glo_ok X G (c.fact 2 (f := .glo "check_number")),
    m_is_key := glo_ok X G (c.fact 3 (f := .glo "is_key")),
    m_check_key := glo_ok X G (c.fact 4 (f := .glo "check_key")),
    m_mix_of := glo_ok X G (c.fact 5 (f := .glo "mix_of")),
    m_check_mixing := glo_ok X G (c.fact 6 (f := .glo "check_mixing")),
    m_place_of := glo_ok X G (c.fact 7 (f := .glo "place_of")),
    m_place := glo_ok X G (c.fact 8 (f := .glo "place")),
    m__law_hand := glo_ok X G (c.fact 9 (f := .glo "_law_hand")),
    m__law_draw := glo_ok X G (c.fact 10 (f := .glo "_law_draw")),
    m__law_mix := glo_ok X G (c.fact 11 (f := .glo "_law_mix")),
    m__law_long_key := glo_ok X G (c.fact 12 (f := .glo "_law_long_key")),
    m_law := glo_ok X G (c.fact 13 (f := .glo "law")),
    m_InvalidNumber := glo_ok X G (c.fact 14 (f := .glo "InvalidNumber")),
    m_InvalidKey := glo_ok X G (c.fact 15 (f := .glo "InvalidKey")),
    m_InvalidMixing := glo_ok X G (c.fact 16 (f := .glo "InvalidMixing")),
    m_Mixing := glo_ok X G (c.fact 17 (f := .glo "Mixing")),
    c_Mixing := cls_ok (c.fact 18 (f := .cls "Mixing")),
    k_Mixing := mkr_ok (c.fact 19 (f := .mkr "Mixing")),
    n_Mixing_own_base := noat_ok (c.fact 20 (f := .noat "Mixing" "own_base")),
    n_Mixing_own_bits := noat_ok (c.fact 21 (f := .noat "Mixing" "own_bits")),
    e_Mixing_call := meth_ok (c.fact 22 (f := .meth "Mixing" "__call__")),
    e_Mixing_eq := meth_ok (c.fact 23 (f := .meth "Mixing" "__eq__")),
    e_Mixing_repr := meth_ok (c.fact 24 (f := .meth "Mixing" "__repr__")),
    v_MAX_BASE := int_ok X G (c.fact 25 (f := .int "MAX_BASE" 1000)),
    v_MAX_BITS := int_ok X G (c.fact 26 (f := .int "MAX_BITS" 32)),
    v_MAX_NUMBER := int_ok X G (c.fact 27 (f := .int "MAX_NUMBER" 4294967296)),
    v_MAX_LENGTH := int_ok X G (c.fact 28 (f := .int "MAX_LENGTH" 20)),
    v_CHARACTERS := str_ok X G (c.fact 29 (f := .str "CHARACTERS" "abcdefghijklmnopqrstuvwxyz0123456789")),
    b_ValueError := free_ok X G (c.fact 30 (f := .free "ValueError")),
    b_all := free_ok X G (c.fact 31 (f := .free "all")),
    b_bool := free_ok X G (c.fact 32 (f := .free "bool")),
    b_int := free_ok X G (c.fact 33 (f := .free "int")),
    b_isinstance := free_ok X G (c.fact 34 (f := .free "isinstance")),
    b_len := free_ok X G (c.fact 35 (f := .free "len")),
    b_max := free_ok X G (c.fact 36 (f := .free "max")),
    b_min := free_ok X G (c.fact 37 (f := .free "min")),
    b_ord := free_ok X G (c.fact 38 (f := .free "ord")),
    b_property := free_ok X G (c.fact 39 (f := .free "property")),
    b_range := free_ok X G (c.fact 40 (f := .free "range")),
    b_repr := free_ok X G (c.fact 41 (f := .free "repr")),
    b_str := free_ok X G (c.fact 42 (f := .free "str")),
    p_Mixing_base := propB_ok x0,
    p_Mixing_bits := propB_ok x1,
    o_Mixing := ownC_ok (cls_ok (c.fact 18 (f := .cls "Mixing"))) x2,
    q_Mixing := ownK_ok x3,
    f_Mixing := first_ok x4,
    x_Mixing_ne := noNe_ok x5,
    y_Mixing_call := x6 }
end k01
open PySem PySem.W PySem.Calls PyProof.Rows
set_option maxRecDepth 100000 in
set_option maxHeartbeats 0 in
theorem PySem.Challenge.cw_arccursors_k01_keys_and_mixings_holds : PySem.Challenge.rw_arccursors_k01_keys_and_mixings.Holds := by
  w_on; o_law
  refine HandSHeadRun.head_any (r := OpenLaw.row PySem.Challenge.rw_arccursors_k01_keys_and_mixings) (q := view (OpenLaw.row PySem.Challenge.rw_arccursors_k01_keys_and_mixings).prog [25]) (H := k01.hk) (ob := k01.ob) (M := 20000) (loose := k01.loose) (d := HandSHeadRun.topDef (OpenLaw.row PySem.Challenge.rw_arccursors_k01_keys_and_mixings).prog 25) (kwd := []) k01.ob_eq
    (by kernel_rfl) (fun s => by kernel_rfl) k01.run (by kernel_rfl) (by kernel_rfl) (by kernel_rfl) (by rfl) (by first | assumption | decide +kernel) (by decide +kernel) ⟨rfl, rfl, rfl, rfl, rfl, by decide +kernel⟩ ?hw ?hc
  case hw => w_witness2
  case hc =>
    refine L2.walk_ofE (l := PySem.Challenge.rw_arccursors_k01_keys_and_mixings) (n := 63) (k := 6) (x := "_law_script") (CX := L2.CX0) rfl (by decide) (by kernel_rfl) ⟨rfl, by decide, by decide⟩ ?F (fun _ _ _ _ z => z)
    intro w mg fa h Y G hmg0
    obtain ⟨K, KX, c⟩ := Y
    have hmg : mg ("law" : PySem.Str) = some (.ref fa) := by
      have e : (HandSHeadRun.topDef (OpenLaw.row PySem.Challenge.rw_arccursors_k01_keys_and_mixings).prog 25).name = ("law" : PySem.Str) := by kernel_rfl
      rw [← e]
      exact hmg0
    have T := k01.txt KX G c
    have e := hmg.symm.trans T.m_law
    cases e
    obtain ⟨fd, sp, h2, h3, h4⟩ := k01.law_end (P := (PySem.Challenge.rw_arccursors_k01_keys_and_mixings).prog) (w := w) T
    exact ⟨K, fd, sp, KX, h2, h3, h4⟩
