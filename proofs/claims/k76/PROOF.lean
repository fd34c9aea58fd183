import PyProof.Rows.All
import HandS.ForSpec
import HandS.ExcInit
import HandS.Defaults
import HandS.TryMany
import KE.KExcInit
import HandS.ClsMeth
import HandS.ForMost
import HandS.Conv
import HandS.IsInst
import HandS.HotCalls
import HandS.ExcIs
import HandS.ExcField
import KE.KExcIs
import HandS.HeadHook1
import HandS.HeadHook2
import PySem.Challenge.RW_boughlaws_k76_refusals_apart
import HandS.CallSlots
import HandS.WordsExc
import Wide.All
import OpenK.AllK
import Wide.FinOn
import KE.KStateDown
import Lean
import HandS.Head0
import HandS.Head1
import HandS.Head2
import HandS.HeadEnd
set_option Elab.async false
set_option linter.all false
set_option maxRecDepth 100000
set_option maxHeartbeats 0
/-! Own exceptions in two steps: class B(V): __init__(self, word) under a built-in V, class X(B): __init__(self, ..) under B; over the layer. -/
namespace X3
open PySem PySem.Spec PyProof.Rows L2
/-- a built-in base -/
structure BF (B newId initId : String) (tl : List Value) : Prop where
  ex : ExcBaseFacts B newId initId tl
  st : StoreFacts B tl "object.__setattr__" "object"
  ty : typeOf (.type B) = pure (.type "type")
  stub : Manifest.isStub B = false
  hi : PySem.W.handedIn (.builtin initId) = true
  at_ : ∀ K : PySem.W.Frag, PySem.W.findCls K (.type B) (.type "type") "__init__" = some (.val (.builtin initId))
abbrev tlV : List Value := [.type "ValueError", .type "Exception", .type "BaseException", .type "object"]
abbrev tlL : List Value := [.type "LookupError", .type "Exception", .type "BaseException", .type "object"]
theorem bfV : BF "ValueError" "ValueError.__new__" "ValueError.__init__" tlV := ⟨F.excBase_ValueError, F.store_ValueError, by kernel_rfl, by decide +kernel, by decide +kernel, fun K => by kernel_rfl⟩
theorem bfL : BF "LookupError" "LookupError.__new__" "LookupError.__init__" tlL := ⟨F.excBase_LookupError, F.store_LookupError, by kernel_rfl, by decide +kernel, by decide +kernel, fun K => by kernel_rfl⟩
/-- what the written part says of an own exception class -/
structure XC (K : PySem.W.Frag) (newId : String) (tl : List Value) (C : Addr) : Prop where
  q : PySem.W.excInitIn K C tl newId = true
  ov : PySem.W.excOver K C tl = true
  hd : PySem.W.hasDictIn K C = true
  sa : PySem.W.findIn K (.ref C) "__setattr__" = some (some (.builtin "object.__setattr__"))
  ga : PySem.W.findIn K (.ref C) "__getattribute__" = some (some (.builtin "BaseException.__getattribute__"))
  gg : PySem.W.findIn K (.ref C) "__getattr__" = some none
  ex : PySem.W.subIn K (.ref C) (.type "BaseException") = some true
  ty : PySem.W.typeIn K (.ref C) = some (.type "type")
  kp : PySem.W.keepIn K (.ref C) = true
section
open Builtin Builtin.ObjectAttr
variable {prog : Program} {w : World} {A : Around} {R : Result → Shared → Prop} {hp : Heap} {g : Array GenState} {d : Drawn} {t : Nat} {os : OsState}
variable {B newId initId : String} {tl : List Value} {K : PySem.W.Frag} {name : Str} {tk : Tok} {v : Value} {x C dx : Addr} {fv : Array Value}
theorem osa0 (bf : BF B newId initId tl) (X : K.In hp) (T : XC K newId tl C) (hx : hp.get? x = some { cls := .ref C, data := .fields fv }) (hn : PySem.W.findIn K (.ref C) name = some none)
    (hq : ∀ h' tk' dx, (∀ b o, b ≠ x → hp.get? b = some o → h'.get? b = some o) → hp.objs.size ≤ dx → dx ≠ x → h'.get? x = some { cls := .ref C, dict := some dx, data := .fields fv } → h'.Ns1 dx (fun y => if y = name then some v else none) →
      R (.ok (.ret .none)) ⟨h', g, d, tk', os⟩) :
    codeAny (model prog w) A (.call (.builtin "object.__setattr__") ⟨[.ref x, .str name tk, v], []⟩) R ⟨hp, g, d, t, os⟩ := by
  have hs : x ≠ hp.objs.size := Nat.ne_of_lt (Heap.lt_size hx)
  refine PySem.W.osa_openX (r := none) (od := none) bf.st X ⟨hx, rfl, rfl, trivial⟩ T.ov (NoAttr.taker hn) fun b => ?_
  obtain ⟨cd, hcd, hh⟩ := PySem.W.any_some T.hd
  have lk : PySem.W.Looks (model prog w) hp (classData C) cd := PySem.W.looks_clsIn X hcd
  obtain ⟨nm, bs, mro, ns, qn, hd, sn, sb, ab, col, dl⟩ := cd
  dsimp only at hh
  subst hh
  show wpAny _ _ (storeInOwnDict (.ref x) (.ref C) (.str name tk) name v b) _ _ _
  unfold storeInOwnDict ownDictForStores
  repeat (first | with_reducible refine HandSPX.store_in_new ?_ ?_ | with_reducible refine wpAny_loadPart_at hx ?_ | with_reducible refine lk.at ?_ | wp_step)
  · exact ⟨_, #[], _, (Heap.get?_update_ne _ _ _ _ hs.symm).trans (Heap.get?_push_at rfl rfl), rfl, fun e he => absurd he (by simp), fun _ => rfl⟩
  · intro h' tk' hn' hs'
    have hx' : (hp.push { cls := .type "dict", data := .dict #[] }).get? x = some { cls := .ref C, data := .fields fv } := Heap.get?_push_of_some _ hx
    refine hq h' tk' hp.objs.size (fun c o hc ho => (hs'.2 c (Nat.ne_of_lt (Heap.lt_size ho))).trans ((Heap.get?_update_ne _ _ _ _ hc).trans (Heap.get?_push_of_some _ ho))) (Nat.le_refl _) hs.symm ((hs'.2 x hs).trans (Heap.get?_update_self _ hx' rfl)) hn'
theorem osa1 {m0 : Str → Option Value} {nl : List Str} (bf : BF B newId initId tl) (X : K.In hp) (T : XC K newId tl C) (hx : hp.get? x = some { cls := .ref C, dict := some dx, data := .fields fv }) (hns : hp.Ns1 dx m0) (hw : Within m0 nl) (hz : nl.length ≤ 1000)
    (hn : PySem.W.findIn K (.ref C) name = some none)
    (hq : ∀ h' tk', (∀ b o, b ≠ dx → hp.get? b = some o → h'.get? b = some o) → h'.Ns1 dx (fun y => if y = name then some v else m0 y) → R (.ok (.ret .none)) ⟨h', g, d, tk', os⟩) :
    codeAny (model prog w) A (.call (.builtin "object.__setattr__") ⟨[.ref x, .str name tk, v], []⟩) R ⟨hp, g, d, t, os⟩ := by
  obtain ⟨oD, esD, epD, hoD, hdD, _⟩ := hns.count hw
  refine PySem.W.osa_openX (r := none) (od := some oD) bf.st X ⟨hx, rfl, rfl, hoD⟩ T.ov (NoAttr.taker hn) fun b => ?_
  obtain ⟨cd, hcd, hh⟩ := PySem.W.any_some T.hd
  have lk : PySem.W.Looks (model prog w) hp (classData C) cd := PySem.W.looks_clsIn X hcd
  obtain ⟨nm, bs, mro, ns, qn, hd, sn, sb, ab, col, dl⟩ := cd
  dsimp only at hh
  subst hh
  show wpAny _ _ (storeInOwnDict (.ref x) (.ref C) (.str name tk) name v b) _ _ _
  unfold storeInOwnDict ownDictForStores
  repeat (first | with_reducible refine OEX.store_in_old hns hw hz ?_ | with_reducible refine wpAny_loadPart_at hx ?_ | with_reducible refine lk.at ?_ | wp_step)
  intro h' tk' hn' hs'
  exact hq h' tk' (fun c o hc ho => (hs'.2 c hc).trans ho) hn'
end
end X3
namespace X3
open PySem PySem.Spec PyProof.Rows L2 ClX
/-! ### over the abstract heap -/
section
variable {X : Cx} {pins : List (Addr × Obj)} {σ : L2.St} {H : Hp} {s : Shared} {a C dx : Addr} {f : Str} {y : V} {u : Value} {fs : List (Str × V)} {Q : Unit → Shared → Prop} {E : Value → Shared → Prop} {A : Around}
variable {B newId initId : String} {tl : List Value}
/-- the exception at a is changed, its new dict is laid at dx -/
theorem inv_dict {h' : Heap} {tk : Nat} {o1 : HO} {o2 : HO} (I : Inv X pins σ H s) (e : H a = some (exo a C none)) (k : ∀ b o, b ≠ a → s.heap.get? b = some o → h'.get? b = some o) (ha : ∃ o, h'.get? a = some o) (hn : s.heap.objs.size ≤ dx)
    (h1 : ObjOk X.prog X.w (upd (upd H dx o1) a o2) h' dx o1) (h2 : ObjOk X.prog X.w (upd (upd H dx o1) a o2) h' a o2) (ne : dx ≠ a) :
    Inv X pins σ (upd (upd H dx o1) a o2) { s with heap := h', toks := tk } := by
  have hd : H dx = none := I.hok.fresh hn
  have nb : ∀ {b : Addr} {o : Obj}, s.heap.get? b = some o → b ≠ dx := fun z => Nat.ne_of_lt (Nat.lt_of_lt_of_le (Heap.lt_size z) hn)
  have na : ∀ {b : Addr}, H b = none → b ≠ a := fun z r => by
    rw [r, e] at z
    cases z
  have up : ∀ {b : Addr} {z : HO}, H b = some z → exo a C none ≠ z → (upd (upd H dx o1) a o2) b = some z := fun {b z} q r => by
    rw [upd_ne (at_ne e q r), upd_ne (ne_of_none q hd)]
    exact q
  refine I.un (t' := tk) ⟨fun b o q n _ _ => k b o (na n) q, fun b o q n _ _ => ⟨o.slots, k b o (na n) q⟩, fun b o q n _ => by rw [upd_ne (na n), upd_ne (nb q)]; exact n, fun b o q _ => ?_, fun b xs q => up q exo_tup, fun b o v q => up q exo_frz, fun b ps q => ⟨#[], by rw [up q exo_tbl]; simp⟩⟩ fun b o q => ?_
  · by_cases hb : b = a
    · rw [hb]
      exact ha
    · exact ⟨o, k b o hb q⟩
  · by_cases hb : b = a
    · subst hb
      rw [upd_same] at q
      cases q
      exact h2
    · rw [upd_ne hb] at q
      by_cases hx : b = dx
      · subst hx
        rw [upd_same] at q
        cases q
        exact h1
      · rw [upd_ne hx] at q
        exact (I.hok b o q).stay (fun c v hc z => k c v (hc.elim (fun r => by rw [r]; exact hb) fun r => at_ne e r exo_own) z) (fun c r => up r exo_own) fun c xs r => up r exo_tup
theorem st0 (bf : BF B newId initId tl) (T : XC X.K newId tl C) (I : Inv X pins σ H s) (e : H a = some (exo a C none)) (hn : PySem.W.findIn X.K (.ref C) f = some none) (ry : RelV y u)
    (h : ∀ dx s', H dx = none → dx ≠ a → Inv X pins σ (upd (upd H dx (exd dx [(f, y)])) a (exo a C (some dx))) s' → Q () s') : wpAny (model X.prog X.w) A (setAttr (.ref a) f u) Q E s := by
  obtain ⟨t1, ho⟩ := exo_at I.hok e
  obtain ⟨hp, g, d, t, os⟩ := s
  refine PySem.W.set_plain I.kIn (od := none) ⟨ho, rfl, rfl, trivial⟩ T.sa ?_
  refine osa0 bf I.kIn T ho hn fun h' tk' dx k dn dne hx hns => ?_
  exact h dx _ (I.hok.fresh dn) dne (inv_dict I e k ⟨_, hx⟩ dn (exd_ok hns (relO_put (fs := []) ry fun g => True.intro)) (exo_ok hx) dne)
theorem st1 (bf : BF B newId initId tl) (T : XC X.K newId tl C) (I : Inv X pins σ H s) (e : H a = some (exo a C (some dx))) (ed : H dx = some (exd dx fs)) (hl : fs.length ≤ 900) (hn : PySem.W.findIn X.K (.ref C) f = some none) (ry : RelV y u)
    (h : ∀ s', Inv X pins σ (upd H dx (exd dx ((f, y) :: fs))) s' → Q () s') : wpAny (model X.prog X.w) A (setAttr (.ref a) f u) Q E s := by
  obtain ⟨t1, ho⟩ := exo_at I.hok e
  obtain ⟨mA, hns, rel⟩ := exd_at I.hok ed
  have hw := within_of rel
  obtain ⟨hp, g, d, t, os⟩ := s
  obtain ⟨oD, _, _, hoD, _, _⟩ := hns.count hw
  refine PySem.W.set_plain I.kIn (od := some oD) ⟨ho, rfl, rfl, hoD⟩ T.sa ?_
  refine osa1 bf I.kIn T ho hns hw (by rw [List.length_map]; omega) hn fun h' tk' k hn' => ?_
  have hd : ∃ o, h'.get? dx = some o := let ⟨o, _, _, e', _⟩ := hn'; ⟨o, e'⟩
  exact h _ (I.write (t' := tk') (x := dx) (e := dx) (o := exd dx ((f, y) :: fs)) (by rw [ed]; exact True.intro) (.inl rfl) k hd (exd_ok hn' (relO_put ry rel)))
/-- V.__init__(self, ..) of the built-in V -/
theorem base_init {us : List Value} {Q : Value → Shared → Prop} (bf : BF B newId initId tl) (T : XC X.K newId tl C) (I : Inv X pins σ H s) (e : H a = some (exo a C none)) (hl : us.length ≤ sizeLine) (h : ∀ s', Inv X pins σ H s' → Q .none s') :
    wpAny (model X.prog X.w) A (call (.builtin initId) (.ref a :: us)) Q E s := by
  obtain ⟨t1, ho⟩ := exo_at I.hok e
  obtain ⟨nm, N, qn, bs, bm, hdct, sn, sub, ab, col, dd, k0, k1, k2, k3, k5, hC, hT⟩ := PySem.W.excInit_of I.kIn T.q
  obtain ⟨hp, g, d, t, os⟩ := s
  refine wpAny_call (HandSPX.init_base bf.ex hT hC ho hl fun h' t2 k hx => ?_)
  have J := I.write (t' := t) (x := a) (e := a) (o := exo a C none) (by rw [e]; exact True.intro) (.inl rfl) k ⟨_, hx⟩ (exo_ok hx)
  have eu : upd H a (exo a C none) = H := by
    funext b
    by_cases hb : b = a
    · rw [hb, upd_same, e]
    · rw [upd_ne hb]
  rw [eu] at J
  exact h _ J
end
/-! ### readings and rules -/
/-- V.__init__(self, ..) -/
def tVInit (K : PySem.W.Frag) (newId : String) (tl : List Value) (ta : TA) : TE := fun σ H Q => ta σ H fun vs H1 => ∃ (a C : Addr) (ws : List V), vs = .ref a :: ws ∧ ws.length ≤ 1000 ∧ XC K newId tl C ∧ H1 a = some (exo a C none) ∧ Q .non H1
/-- self.f = e -/
def tXSt (K : PySem.W.Frag) (newId : String) (tl : List Value) (f : Str) (to te : TE) : TS := fun D σ H => te σ H fun y H1 => to σ H1 fun x H2 => ∃ a C : Addr, x = .ref a ∧ XC K newId tl C ∧ PySem.W.findIn K (.ref C) f = some none ∧
  ((H2 a = some (exo a C none) ∧ ∀ dx, H2 dx = none → dx ≠ a → D.nx σ (upd (upd H2 dx (exd dx [(f, y)])) a (exo a C (some dx)))) ∨
    ∃ (dx : Addr) (fs : List (Str × V)), H2 a = some (exo a C (some dx)) ∧ H2 dx = some (exd dx fs) ∧ fs.length ≤ 900 ∧ D.nx σ (upd H2 dx (exd dx ((f, y) :: fs))))
section
variable {X : Cx} {o e : Expr} {es : List Expr} {to te : TE} {ta : TA} {f : Str} {p p' p1 p2 pos : Pos} {B newId initId : String} {tl : List Value}
theorem pe_vinit {pl : Sem Bool} {V : Str} (bf : BF B newId initId tl) (hg : Gl X V) (hm : X.mg V = none) (hV : bootBuiltins V = some (.type B)) (hv : V ≠ "__name__") (hv2 : (V == ("__debug__" : Str)) = false)
    (ha : PA X (e :: es) ta)
    (hc : eval (.Call (.Attribute (.Name V p1) "__init__" p2) (e :: es) [] pos) X.env = (do
      let ov ← eval (.Name V p1) X.env
      standAt p2.atName
      let (f, first) ← holding [ov] (getMethod ov "__init__" pl)
      callWith pos f first (backTo pos (starEach (e :: es) X.env)) (backToKw pos (keywordEach [] X.env))) := by rfl)
    (he : starEach (e :: es) X.env = (false, eval e X.env) :: starEach es X.env := by rfl) (hpl : (backTo pos (starEach es X.env)).any (·.1) = false := by rfl) :
    PE X (.Call (.Attribute (.Name V p1) "__init__" p2) (e :: es) [] pos) (tVInit X.K newId tl ta) := by
  refine ⟨fun pins s σ H Q I h => ?_⟩
  refine PySem.W.methodCall_KW (ld_blt I hg hm hV ?_ hv hv2) hc
  obtain ⟨m, fr⟩ := I.fr
  refine PySem.W.method_type fr I.ok.mod.kin bf.ty bf.stub (bf.at_ _) bf.hi ?_
  show wpAny _ _ (callWith pos (Value.builtin initId) [] (backTo pos (starEach (e :: es) X.env)) []) _ _ _
  refine PyProof.Rows.callWith_method1 (thn (ha.run pos pins _ σ H _ (I.tok _) h) fun us s1 ⟨vs, H1, I1, r1, a, C, ws, ev, hl, T, ea, q⟩ => ?_) he hpl
  subst ev
  cases r1 with
  | @cons _ u0 _ ur ra rr =>
    obtain rfl : u0 = Value.ref a := ra
    exact base_init bf T I1 ea (by rw [← Paired.length rr, sizeLine_eq]; omega) fun s' J => ⟨.non, H1, J, rfl, q⟩
theorem ps_xst (bf : BF B newId initId tl) (ho : PE X o to) (he : PE X e te) (hs : swapsWith e (some (.Attribute o f p')) pos.line X.env = pure false := by rfl) : PS X (.Assign [.Attribute o f p'] e pos) (tXSt X.K newId tl f to te) := by
  refine ⟨fun pins s σ H D I h => ?_⟩
  refine plainObj_wpAny_Assign_Attribute (thn (he.run pins s σ H _ I h) fun v s1 ⟨y, H1, I1, r1, q1⟩ => thn (ho.run pins s1 σ H1 _ I1 q1) fun u s2 ⟨x, H2, I2, r2, a, C, ex, T, hno, q⟩ => ?_) hs
  subst ex
  obtain rfl : u = Value.ref a := r2
  rcases q with ⟨ea, q⟩ | ⟨dx, fs, ea, ed, hl, q⟩
  · exact st0 bf T I2 ea hno r1 fun dx s' n ne J => ⟨σ, _, J, q dx n ne⟩
  · exact st1 bf T I2 ea ed hl hno r1 fun s' J => ⟨σ, _, J, q⟩
/-- C.m(e, ..), C an own class by its name, m a plain def of it -/
theorem pe_clsm {pl : Sem Bool} {CX : CXT} {k : Nat} {x m : Str} {C g : Addr} {mc : Value} {fd : FuncData} {ps : List Str} {sp : Sp} {dvs : List V} {ds : List Value} {E : XK} (hg : Gl X x) (hm : X.mg x = some (.ref C)) (rd : CRead X.K C mc)
    (at_ : PySem.W.findCls X.K (.ref C) mc m = some (.val (.ref g))) (kp : PySem.W.keepIn X.K (.ref g) = true) (G : FnOk X.prog X.w X.K X.mg X.base CX k g fd ps sp) (hr : Room k X.A) (hb : Binds X.K fd ps ds) (hd : Vals dvs ds) (hx : Passes CX X E) (ha : PA X (e :: es) ta)
    (hdb : (x == ("__debug__" : Str)) = false)
    (ht : eval (.Call (.Attribute (.Name x p1) m p2) (e :: es) [] pos) X.env = (do
      let ov ← eval (.Name x p1) X.env
      standAt p2.atName
      let (f, first) ← holding [ov] (getMethod ov m pl)
      callWith pos f first (backTo pos (starEach (e :: es) X.env)) (backToKw pos (keywordEach [] X.env))) := by rfl)
    (he : starEach (e :: es) X.env = (false, eval e X.env) :: starEach es X.env := by rfl) (hpl : (backTo pos (starEach es X.env)).any (·.1) = false := by rfl) :
    PE X (.Call (.Attribute (.Name x p1) m p2) (e :: es) [] pos) (tCall sp dvs E ta) := by
  refine ⟨fun pins s σ H Q I h => ?_⟩
  refine PySem.W.methodCall_KW (ld_glob I hg hm ?_ hdb) ht
  refine PySem.W.method_cls I.kIn rd.ga (PySem.W.cls_value I.kIn rd.rd at_ rfl ?_)
  have I' := I.tok (s.toks + 1)
  refine PySem.W.callWith_K (first := []) (h₀ := X.base) I.ok.mod.kin kp (thn (ha.run pos pins _ σ H _ I' h) fun us s1 ⟨vs, H1, I1, r1, q⟩ => ⟨I1.kIn, ?_⟩) he hpl
  exact run_fn (us := us) G hr hb hd hx I1 r1 q
end
end X3
namespace X3
open PySem PySem.Spec PyProof.Rows L2 ClX
/-- a method call whose two lines are one -/
theorem mcall_eq {o : Expr} {name : Str} {apos pos : Pos} {args : List Expr} {env : Env} (hp : (apos.endLine == pos.line) = true) (hf : methodCallForm (args.length + ([] : List Keyword).length) (backTo pos (starEach args env)) (backToKw pos (keywordEach [] env)) = true)
    (hb : attributeBase o name env (eval o env) = eval o env) :
    eval (.Call (.Attribute o name apos) args [] pos) env = (do
      let ov ← eval o env
      standAt apos.atName
      let (f, first) ← holding [ov] (getMethod ov name (do return (← importBound o env).getD true))
      callWith pos f first (backTo pos (starEach args env)) (backToKw pos (keywordEach [] env))) := by
  rw [arm_eval_Call, hb]
  unfold methodCall calleeOf methodCallPos
  rw [hf]
  simp only [if_true, hp, Bool.not_true, Bool.false_or]
  congr 1
/-! ### the two __init__s -/
/-- a name that may stand for a field or a base -/
def okN (x : Str) : Bool := !(x == "self") && (!(x == ("__debug__" : Str)) && (!(x == ("__classdict__" : Str)) && !(x == ("__name__" : Str))))
theorem okN_of {x : Str} (h : okN x = true) : x ≠ "self" ∧ (x == ("__debug__" : Str)) = false ∧ (x == ("__classdict__" : Str)) = false ∧ x ≠ "__name__" := by
  unfold okN at h
  simp only [Bool.and_eq_true, Bool.not_eq_true', beq_eq_false_iff_ne] at h
  obtain ⟨h1, h2, h3, h4⟩ := h
  exact ⟨h1, beq_eq_false_iff_ne.mpr h2, beq_eq_false_iff_ne.mpr h3, h4⟩
abbrev sc0 (B : Str) : Scope := { kind := .function, names := [(PySem.Str.ofString "self", .local), (B, .globalImplicit)], isGenerator := false, isCoroutine := false, more := [] }
abbrev sc1 (f B : Str) : Scope := { kind := .function, names := [(PySem.Str.ofString "self", .local), (f, .local), (B, .globalImplicit)], isGenerator := false, isCoroutine := false, more := [] }
abbrev sc2 (f g B : Str) : Scope := { kind := .function, names := [(PySem.Str.ofString "self", .local), (f, .local), (g, .local), (B, .globalImplicit)], isGenerator := false, isCoroutine := false, more := [] }
/-- B.__init__(self, word); self.word = word, B under a built-in -/
def spB (K : PySem.W.Frag) (newId : String) (tl : List Value) : Sp := fun vs H Q _ => ∃ (a C : Addr) (y : V), vs = [.ref a, y] ∧ XC K newId tl C ∧ PySem.W.findIn K (.ref C) "word" = some none ∧ H a = some (exo a C none) ∧
  ∀ dx, H dx = none → dx ≠ a → Q .non (upd (upd H dx (exd dx [("word", y)])) a (exo a C (some dx)))
/-- X.__init__(self, ..): the word z, then the fields fs (the last one first) -/
def spX (K : PySem.W.Frag) (newId : String) (tl : List Value) (z : Str) (fs : List Str) : Sp := fun vs H Q _ => ∃ (a C : Addr) (ys : List V), vs = .ref a :: ys ∧ ys.length = fs.length ∧ XC K newId tl C ∧ PySem.W.findIn K (.ref C) "word" = some none ∧
  (∀ f ∈ fs, PySem.W.findIn K (.ref C) f = some none) ∧ H a = some (exo a C none) ∧
  ∀ dx H', H dx = none → dx ≠ a → H' a = some (exo a C (some dx)) → H' dx = some (exd dx ((fs.zip ys).reverse ++ ([(("word" : Str), V.str z)] : List (Str × V)))) → (∀ b, b ≠ a → b ≠ dx → H' b = H b) → Q .non H'
section
variable {P : Program} {w : World} {K : PySem.W.Frag} {mg : Str → Option Value} {base : Heap} {B newId initId : String} {tl : List Value} {f : Addr} {fd : FuncData} {qual : Str} {params : Arguments} {V : Str}
variable {p1 p2 p3 p4 p5 p6 p7 p8 p9 q1 q2 q3 q4 q5 q6 q7 q8 : Pos}
theorem ok_base (F : FunD K "__init__" qual params
      [.Expr (.Call (.Attribute (.Name V p1) "__init__" p2) [.Name "self" p3, .Name "word" p4] [] p5) p6, .Assign [.Attribute (.Name "self" p7) "word" p8] (.Name "word" p9) q1] (sc1 "word" V) [] [] f fd)
    (bf : BF B newId initId tl) (hm : mg V = none) (hV : bootBuiltins V = some (.type B)) (hN : okN V = true) (hw : V ≠ "word") (hp : (p2.endLine == p5.line) = true) :
    FnOk P w K mg base CX0 1 f fd ["self", "word"] (spB K newId tl) := by
  obtain ⟨n1, n2, n3, n4⟩ := okN_of hN
  have gl : (sc1 "word" V).names.lookup V = some .globalImplicit := by
    have e1 : (V == PySem.Str.ofString "self") = false := beq_eq_false_iff_ne.mpr n1
    have e2 : (V == PySem.Str.ofString "word") = false := beq_eq_false_iff_ne.mpr hw
    simp [List.lookup, e1, e2]
  have S : FnScope ["self", "word"] ["self", "word"] (sc1 "word" V) := ⟨rfl, rfl, rfl, by decide +kernel, rfl, fun x hx => .inl (by
    rcases List.mem_cons.mp hx with e | hx
    · rw [e]; rfl
    · rcases List.mem_cons.mp hx with e | hx
      · rw [e]; rfl
      · cases hx), fun y hy => by
    simp only [List.mem_cons, List.not_mem_nil, or_false] at hy
    rcases hy with e | e | e <;> rw [e] <;> exact (fun z => nomatch z)⟩
  refine F.ok S (fun vs H Q E h => ?_) (fun cdv A outer s H vs Q E hr h => ?_)
  · obtain ⟨a, C, y, rfl, _⟩ := h
    rfl
  · obtain ⟨a, C, y, rfl, T, hno, ea, k⟩ := h
    refine ⟨_, pss_cons (ps_expr (pe_vinit bf gl hm hV n4 n2 (pa_cons (pv 0) (pa_cons (pv 1) pa_nil)) (mcall_eq hp rfl rfl))) (pss_one (ps_xst bf (pv 0) (pv 1))), ?_⟩
    exact ⟨_, rfl, _, rfl, a, C, [y], rfl, (by show 1 ≤ 1000; decide), T, ea, _, rfl, _, rfl, a, C, rfl, T, hno, .inl ⟨ea, fun dx n ne => k dx n ne⟩⟩
variable {CB fB : Addr} {fdB : FuncData} {mc : Value} {z g1 g2 x : Str}
/-- what a class X says of its base B's __init__ -/
structure BaseI (P : Program) (w : World) (K : PySem.W.Frag) (mg : Str → Option Value) (base : Heap) (newId : String) (tl : List Value) (x : Str) : Prop where
  ex : ∃ (C f : Addr) (fd : FuncData), mg x = some (.ref C) ∧ CRead K C (.type "type") ∧ PySem.W.findCls K (.ref C) (.type "type") "__init__" = some (.val (.ref f)) ∧ PySem.W.keepIn K (.ref f) = true ∧ FnOk P w K mg base CX0 1 f fd ["self", "word"] (spB K newId tl) ∧ Binds K fd ["self", "word"] []
  nm : okN x = true
theorem ok_x0 {k0 : Nat} (F : FunD K "__init__" qual params [.Expr (.Call (.Attribute (.Name x p1) "__init__" p2) [.Name "self" p3, .Constant (.str z) k0 p4] [] p5) p6] (sc0 x) [] [] f fd) (hp : (p2.endLine == p5.line) = true) (b : BaseI P w K mg base newId tl x) :
    FnOk P w K mg base CX0 2 f fd ["self"] (spX K newId tl z []) := by
  obtain ⟨C0, f0, fd0, m0, rd, at_, kp, G, bb⟩ := b.ex
  obtain ⟨n1, n2, n3, n4⟩ := okN_of b.nm
  have gl : (sc0 x).names.lookup x = some .globalImplicit := by
    have e1 : (x == PySem.Str.ofString "self") = false := beq_eq_false_iff_ne.mpr n1
    simp [List.lookup, e1]
  have S : FnScope ["self"] ["self"] (sc0 x) := ⟨rfl, rfl, rfl, by decide +kernel, rfl, fun y hy => .inl (by
    rcases List.mem_cons.mp hy with e | hy
    · rw [e]; rfl
    · cases hy), fun y hy => by
    simp only [List.mem_cons, List.not_mem_nil, or_false] at hy
    rcases hy with e | e <;> rw [e] <;> exact (fun z => nomatch z)⟩
  refine F.ok S (fun vs H Q E h => ?_) (fun cdv A outer s H vs Q E hr h => ?_)
  · obtain ⟨a, C, ys, rfl, hl, _⟩ := h
    show ys.length + 1 = 1
    rw [hl]
    rfl
  · obtain ⟨a, C, ys, rfl, hl, T, hno, hfs, ea, k⟩ := h
    obtain rfl : ys = [] := List.eq_nil_of_length_eq_zero hl
    refine ⟨_, pss_one (ps_expr (pe_clsm gl m0 rd at_ kp G hr bb .nil (E := E0) pass0 (pa_cons (pv 0) (pa_cons pe_str pa_nil)) n2 (mcall_eq hp rfl rfl))), ?_⟩
    refine ⟨_, rfl, a, C, .str z, rfl, T, hno, ea, fun dx n ne => ?_⟩
    exact k dx _ n ne upd_same (by rw [upd_ne ne, upd_same]; rfl) fun b h1 h2 => by rw [upd_ne h1, upd_ne h2]
/-- .. with one field -/
theorem ok_x1 {k0 : Nat} (F : FunD K "__init__" qual params [.Expr (.Call (.Attribute (.Name x p1) "__init__" p2) [.Name "self" p3, .Constant (.str z) k0 p4] [] p5) p6, .Assign [.Attribute (.Name "self" p7) g1 p8] (.Name g1 p9) q1] (sc1 g1 x) [] [] f fd)
    (hp : (p2.endLine == p5.line) = true) (b : BaseI P w K mg base newId tl x) (bf : BF B newId initId tl) (hg : okN g1 = true) (hne : x ≠ g1) :
    FnOk P w K mg base CX0 2 f fd ["self", g1] (spX K newId tl z [g1]) := by
  obtain ⟨C0, f0, fd0, m0, rd, at_, kp, G, bb⟩ := b.ex
  obtain ⟨n1, n2, n3, n4⟩ := okN_of b.nm
  obtain ⟨m1, m2, m3, m4⟩ := okN_of hg
  have e3 : (g1 == PySem.Str.ofString "self") = false := beq_eq_false_iff_ne.mpr m1
  have gl : (sc1 g1 x).names.lookup x = some .globalImplicit := by
    have e1 : (x == PySem.Str.ofString "self") = false := beq_eq_false_iff_ne.mpr n1
    have e2 : (x == g1) = false := beq_eq_false_iff_ne.mpr hne
    simp [List.lookup, e1, e2]
  have lg : (sc1 g1 x).names.lookup g1 = some .local := by simp [List.lookup, e3]
  have S : FnScope ["self", g1] ["self", g1] (sc1 g1 x) := ⟨rfl, rfl, rfl, List.nodup_cons.mpr ⟨fun h => m1 (List.mem_singleton.mp h).symm, List.nodup_cons.mpr ⟨by simp, List.nodup_nil⟩⟩, rfl, fun y hy => .inl (by
    rcases List.mem_cons.mp hy with e | hy
    · rw [e]; rfl
    · rcases List.mem_cons.mp hy with e | hy
      · rw [e]; exact lg
      · cases hy), fun y hy => by
    simp only [List.mem_cons, List.not_mem_nil, or_false] at hy
    rcases hy with e | e | e <;> rw [e] <;> exact (fun z => nomatch z)⟩
  refine F.ok S (fun vs H Q E h => ?_) (fun cdv A outer s H vs Q E hr h => ?_)
  · obtain ⟨a, C, ys, rfl, hl, _⟩ := h
    show ys.length + 1 = 2
    rw [hl]
    rfl
  · obtain ⟨a, C, ys, rfl, hl, T, hno, hfs, ea, k⟩ := h
    obtain ⟨y, rfl⟩ : ∃ y, ys = [y] := by
      match ys, hl with
      | [y], _ => exact ⟨y, rfl⟩
    refine ⟨_, pss_cons (ps_expr (pe_clsm gl m0 rd at_ kp G hr bb .nil (E := E0) pass0 (pa_cons (pv 0) (pa_cons pe_str pa_nil)) n2 (mcall_eq hp rfl rfl)))
      (pss_one (ps_xst bf (pv 0) (pv 1 rfl (Or.inl lg) m2 m3))), ?_⟩
    refine ⟨_, rfl, a, C, .str z, rfl, T, hno, ea, fun dx n ne => ?_⟩
    refine ⟨_, rfl, _, rfl, a, C, rfl, T, hfs g1 (by simp), .inr ⟨dx, _, upd_same, by rw [upd_ne ne, upd_same], (by show 1 ≤ 900; decide), ?_⟩⟩
    refine k dx _ n ne (by rw [upd_ne (Ne.symm ne), upd_same]) (by rw [upd_same]; rfl) fun b h1 h2 => by rw [upd_ne h2, upd_ne h1, upd_ne h2]
/-- .. with two -/
theorem ok_x2 {k0 : Nat} (F : FunD K "__init__" qual params [.Expr (.Call (.Attribute (.Name x p1) "__init__" p2) [.Name "self" p3, .Constant (.str z) k0 p4] [] p5) p6, .Assign [.Attribute (.Name "self" p7) g1 p8] (.Name g1 p9) q1,
      .Assign [.Attribute (.Name "self" q2) g2 q3] (.Name g2 q4) q5] (sc2 g1 g2 x) [] [] f fd)
    (hp : (p2.endLine == p5.line) = true) (b : BaseI P w K mg base newId tl x) (bf : BF B newId initId tl) (hg : okN g1 = true) (hg' : okN g2 = true) (h12 : g1 ≠ g2) (hne : x ≠ g1) (hne' : x ≠ g2) :
    FnOk P w K mg base CX0 2 f fd ["self", g1, g2] (spX K newId tl z [g1, g2]) := by
  obtain ⟨C0, f0, fd0, m0, rd, at_, kp, G, bb⟩ := b.ex
  obtain ⟨n1, n2, n3, n4⟩ := okN_of b.nm
  obtain ⟨m1, m2, m3, m4⟩ := okN_of hg
  obtain ⟨l1, l2, l3, l4⟩ := okN_of hg'
  have e3 : (g1 == PySem.Str.ofString "self") = false := beq_eq_false_iff_ne.mpr m1
  have e4 : (g2 == PySem.Str.ofString "self") = false := beq_eq_false_iff_ne.mpr l1
  have e5 : (g2 == g1) = false := beq_eq_false_iff_ne.mpr (Ne.symm h12)
  have gl : (sc2 g1 g2 x).names.lookup x = some .globalImplicit := by
    have e1 : (x == PySem.Str.ofString "self") = false := beq_eq_false_iff_ne.mpr n1
    have e2 : (x == g1) = false := beq_eq_false_iff_ne.mpr hne
    have e2' : (x == g2) = false := beq_eq_false_iff_ne.mpr hne'
    simp [List.lookup, e1, e2, e2']
  have lg : (sc2 g1 g2 x).names.lookup g1 = some .local := by simp [List.lookup, e3]
  have lg' : (sc2 g1 g2 x).names.lookup g2 = some .local := by simp [List.lookup, e4, e5]
  have S : FnScope ["self", g1, g2] ["self", g1, g2] (sc2 g1 g2 x) := ⟨rfl, rfl, rfl, by simp [Ne.symm m1, Ne.symm l1, h12], rfl, fun y hy => .inl (by
    rcases List.mem_cons.mp hy with e | hy
    · rw [e]; rfl
    · rcases List.mem_cons.mp hy with e | hy
      · rw [e]; exact lg
      · rcases List.mem_cons.mp hy with e | hy
        · rw [e]; exact lg'
        · cases hy), fun y hy => by
    simp only [List.mem_cons, List.not_mem_nil, or_false] at hy
    rcases hy with e | e | e | e <;> rw [e] <;> exact (fun z => nomatch z)⟩
  refine F.ok S (fun vs H Q E h => ?_) (fun cdv A outer s H vs Q E hr h => ?_)
  · obtain ⟨a, C, ys, rfl, hl, _⟩ := h
    show ys.length + 1 = 3
    rw [hl]
    rfl
  · obtain ⟨a, C, ys, rfl, hl, T, hno, hfs, ea, k⟩ := h
    obtain ⟨y, y2, rfl⟩ : ∃ y y2, ys = [y, y2] := by
      match ys, hl with
      | [y, y2], _ => exact ⟨y, y2, rfl⟩
    refine ⟨_, pss_cons (ps_expr (pe_clsm gl m0 rd at_ kp G hr bb .nil (E := E0) pass0 (pa_cons (pv 0) (pa_cons pe_str pa_nil)) n2 (mcall_eq hp rfl rfl)))
      (pss_cons (ps_xst bf (pv 0) (pv 1 rfl (Or.inl lg) m2 m3)) (pss_one (ps_xst bf (pv 0) (pv 2 rfl (Or.inl lg') l2 l3)))), ?_⟩
    refine ⟨_, rfl, a, C, .str z, rfl, T, hno, ea, fun dx n ne => ?_⟩
    refine ⟨_, rfl, _, rfl, a, C, rfl, T, hfs g1 (by simp), .inr ⟨dx, _, upd_same, by rw [upd_ne ne, upd_same], (by show 1 ≤ 900; decide), ?_⟩⟩
    refine ⟨_, rfl, _, rfl, a, C, rfl, T, hfs g2 (by simp), .inr ⟨dx, _, by rw [upd_ne (Ne.symm ne), upd_same], upd_same, (by show 2 ≤ 900; decide), ?_⟩⟩
    refine k dx _ n ne (by rw [upd_ne (Ne.symm ne), upd_ne (Ne.symm ne), upd_same]) (by rw [upd_same]; rfl) fun b h1 h2 => by rw [upd_ne h2, upd_ne h2, upd_ne h1, upd_ne h2]
end
end X3
namespace X3
open PySem PySem.Spec PyProof.Rows L2 ClX
/-- an own exception class x, at C: its word z, its fields fs -/
structure XCls (P : Program) (w : World) (K : PySem.W.Frag) (mg : Str → Option Value) (base : Heap) (newId : String) (tl : List Value) (x : Str) (C : Addr) (z : Str) (fs : List Str) : Prop where
  m : mg x = some (.ref C)
  xc : XC K newId tl C
  nw : PySem.W.findIn K (.ref C) "word" = some none
  nf : ∀ f ∈ fs, PySem.W.findIn K (.ref C) f = some none
  ini : ∃ (fI : Addr) (fd : FuncData), PySem.W.findIn K (.ref C) "__init__" = some (some (.ref fI)) ∧ PySem.W.typeIn K (.ref fI) = some (.type "function") ∧ FnOk P w K mg base CX0 2 fI fd ("self" :: fs) (spX K newId tl z fs) ∧ Binds K fd ("self" :: fs) []
/-- the fields of a made one -/
def xflds (z : Str) (fs : List Str) (ys : List V) : List (Str × V) := (fs.zip ys).reverse ++ ([(("word" : Str), V.str z)] : List (Str × V))
section
variable {X : Cx} {newId initId B : String} {tl : List Value} {x z : Str} {C : Addr} {fs : List Str}
/-- C(us): the object, its dict; both tracked -/
theorem run_mkx {pins : List (Addr × Obj)} {σ : L2.St} {H : Hp} {s : Shared} {us : List Value} {vs : List V} {Q : Value → Shared → Prop} (bf : BF B newId initId tl) (T : XCls X.prog X.w X.K X.mg X.base newId tl x C z fs) (hr : Room 3 X.A) (I : Inv X pins σ H s) (r : Vals vs us) (hl : vs.length = fs.length) (hz : fs.length ≤ 100)
    (h : ∀ (a d : Addr) (H2 : Hp) (s' : Shared), s.heap.objs.size ≤ a → H a = none → H d = none → d ≠ a → Inv X pins σ H2 s' → (∀ b o, s.heap.get? b = some o → b ∉ frs X.stack → H b = none → s'.heap.get? b = some o) → H2 a = some (exo a C (some d)) → H2 d = some (exd d (xflds z fs vs)) → (∀ b, b ≠ a → b ≠ d → H2 b = H b) → 
      (∃ hp : Heap, (∀ b o, s.heap.get? b = some o → hp.get? b = some o) ∧ Un (frs X.stack) [] (upd H a (exo a C none)) H2 hp s'.heap ∧ HOk X.prog X.w H2 s'.heap ∧ s'.os = s.os ∧ AllBare s'.gens) → Q (.ref a) s') :
    wpAny (model X.prog X.w) X.A (call (.ref C) us) Q X.xe s := by
  obtain ⟨fI, fd, hi, tI, F1, hb⟩ := T.ini
  obtain ⟨nm, N, qn, bs, bm, hdct, sn, sub, ab, col, dd, k0, k1, k2, k3, k5, hC, hT⟩ := PySem.W.excInit_of I.kIn T.xc.q
  obtain ⟨hp, g, dr, tk, os⟩ := s
  have hsz : hp.objs.size ≤ hp.objs.size + 1 := Nat.le_succ _
  have hn : H (hp.objs.size + 1) = none := I.hok.fresh hsz
  have kk : ∀ b o, hp.get? b = some o → ((hp.push (PySem.W.kdv_tup us)).push (HandSPX.excO C hp.objs.size)).get? b = some o := fun b o e => Heap.get?_push_of_some _ (Heap.get?_push_of_some _ e)
  have hget : ((hp.push (PySem.W.kdv_tup us)).push (HandSPX.excO C hp.objs.size)).get? (hp.objs.size + 1) = some (HandSPX.excO C hp.objs.size) := by heap_get
  have I2 : Inv X pins σ (upd H (hp.objs.size + 1) (exo (hp.objs.size + 1) C none)) ⟨(hp.push (PySem.W.kdv_tup us)).push (HandSPX.excO C hp.objs.size), g, dr, tk, os⟩ :=
    I.laid (t' := tk) (a := hp.objs.size + 1) (o := exo (hp.objs.size + 1) C none) (h' := (hp.push (PySem.W.kdv_tup us)).push (HandSPX.excO C hp.objs.size)) kk hsz (exo_ok hget)
  have r2 : Vals (V.ref (hp.objs.size + 1) :: vs) (Value.ref (hp.objs.size + 1) :: us) := .cons rfl r
  have hus : us.length ≤ sizeLine := by rw [← Paired.length r, sizeLine_eq]; omega
  have hlen : (Value.ref (hp.objs.size + 1) :: us ++ []).length = (("self" : Str) :: fs).length := by
    rw [List.append_nil, List.length_cons, List.length_cons, ← Paired.length r, hl]
  have sp : spX X.K newId tl z fs (V.ref (hp.objs.size + 1) :: vs) (upd H (hp.objs.size + 1) (exo (hp.objs.size + 1) C none))
      (fun v H2 => v = .non ∧ ∃ d, H d = none ∧ d ≠ hp.objs.size + 1 ∧ H2 (hp.objs.size + 1) = some (exo (hp.objs.size + 1) C (some d)) ∧ H2 d = some (exd d (xflds z fs vs)) ∧ ∀ b, b ≠ hp.objs.size + 1 → b ≠ d → H2 b = H b) (fun _ _ _ => False) :=
    ⟨_, C, vs, rfl, hl, T.xc, T.nw, T.nf, upd_same, fun dx H' n ne e1 e2 e3 => ⟨rfl, dx, by rw [upd_ne ne] at n; exact n, ne, e1, e2, fun b h1 h2 => by rw [e3 b h1 h2, upd_ne h1]⟩⟩
  refine wpAny_call (HandSPX.call_own bf.ex hT hC (PySem.W.looks_findIn I.kIn hi) (fun self => PySem.W.bind_fn I.kIn self tI) hus
    (codeAny_mono (F1.run _ X.stack _ _ ⟨Value.ref (hp.objs.size + 1) :: us, []⟩ (Value.ref (hp.objs.size + 1) :: us) _ _ (fun _ _ _ => False) ((hr.make C us []).mono (Nat.le_refl _)) (I2.env0.make C us []) (by have z := hb _ (Value.ref (hp.objs.size + 1) :: us) I2.kIn hlen; rw [List.append_nil] at z; exact z) r2 sp) fun r s' hq' => ?_))
  cases r with
  | error er => exact hq'.elim
  | ok fl =>
    cases fl with
    | ret u =>
      obtain ⟨v, H2, os2, bare2, un2, hok2, rv, ev, d, nd, ne, ea, ed, e3⟩ := hq'
      subst ev
      have J := (I2.after (Q := fun v H2' => H2' = H2) ⟨V.non, H2, os2, bare2, un2, hok2, rv, rfl⟩)
      obtain ⟨v', H2', J, _, e4⟩ := J
      subst e4
      refine ⟨rv, h _ d H2' s' hsz hn nd ne J (fun b o q nb n => ?_) ea ed e3 ⟨_, kk, un2, hok2, os2, bare2⟩⟩
      refine un2.keep b o (kk b o q) ?_ nb (by simp)
      rw [upd_ne (Nat.ne_of_lt (Nat.lt_succ_of_lt (Heap.lt_size q)))]
      exact n
    | next => exact hq'.elim
    | brk => exact hq'.elim
    | cont => exact hq'.elim
/-- raise C(..): the wish of it -/
def tMkX (C : Addr) (z : Str) (fs : List Str) (ta : TA) : L2.St → Hp → XK → Prop := fun σ H Q => ta σ H fun vs H1 => vs.length = fs.length ∧ ∀ d, H1 d = none → Q (.ref C) (some d) (upd H1 d (.xd (xflds z fs vs)))
theorem mkp_of {pins : List (Addr × Obj)} {σ : L2.St} {H1 : Hp} {Q : XK} {us : List Value} {vs : List V} {s1 : Shared} (bf : BF B newId initId tl) (T : XCls X.prog X.w X.K X.mg X.base newId tl x C z fs) (hr : Room 3 X.A) (hz : fs.length ≤ 100) (I1 : Inv X pins σ H1 s1) (r1 : Vals vs us) (hl : vs.length = fs.length)
    (q : ∀ d, H1 d = none → Q (.ref C) (some d) (upd H1 d (.xd (xflds z fs vs)))) : wpAny (model X.prog X.w) X.A (call (.ref C) us) (MkP X pins σ Q) X.xe s1 := by
  refine run_mkx bf T hr I1 r1 hl hz fun a d H2 s' ha na nd ne J _ ea ed e3 hu => ?_
  obtain ⟨hp0, k0, un, hok, os', bare⟩ := hu
  obtain ⟨hp, g1, d1, t1, os1⟩ := s1
  obtain ⟨h2, g2, d2, t2, os2⟩ := s'
  refine mk_end (hp2 := hp0) (raises_own T.xc.ex T.xc.ty) I1 ha k0 un hok os' bare ea ed nd ?_
  have e : upd (del H2 a) d (.xd (xflds z fs vs)) = upd H1 d (.xd (xflds z fs vs)) := by
    funext b
    by_cases hb : b = d
    · subst hb
      rw [upd_same, upd_same]
    · rw [upd_ne hb, upd_ne hb]
      by_cases hba : b = a
      · subst hba
        rw [del_same, na]
      · rw [del_ne hba, e3 b hba hb]
  rw [e]
  exact q d nd
variable {p pos : Pos} {e : Expr} {es : List Expr} {ta : TA}
theorem pmk_x (bf : BF B newId initId tl) (T : XCls X.prog X.w X.K X.mg X.base newId tl x C z fs) (hr : Room 3 X.A) (hz : fs.length ≤ 100) (hg : Gl X x) (ha : PA X (e :: es) ta)
    (hdb : (x == ("__debug__" : Str)) = false := by decide) (he : starEach (e :: es) X.env = (false, eval e X.env) :: starEach es X.env := by rfl) (hpl : (backTo pos (starEach es X.env)).any (·.1) = false := by rfl) :
    PMk X (.Call (.Name x p) (e :: es) [] pos) (tMkX C z fs ta) := by
  intro pins s σ H Q I h
  refine wpAny_Call_Name_kw (ld_glob I hg T.m ?_ hdb)
  refine PySem.W.callWith_K (h₀ := X.base) I.ok.mod.kin T.xc.kp (thn (ha.run pos pins s σ H _ I h) fun us s1 ⟨vs, H1, I1, r1, hl, q⟩ => ⟨I1.kIn, ?_⟩) he hpl
  exact mkp_of bf T hr hz I1 r1 hl q
theorem pmk_x0 (bf : BF B newId initId tl) (T : XCls X.prog X.w X.K X.mg X.base newId tl x C z []) (hr : Room 3 X.A) (hg : Gl X x) (hdb : (x == ("__debug__" : Str)) = false := by decide) : PMk X (.Call (.Name x p) [] [] pos) (tMkX C z [] tNil) := by
  intro pins s σ H Q I h
  refine wpAny_Call_Name_kw (ld_glob I hg T.m ?_ hdb)
  obtain ⟨hl, q⟩ := h
  exact PySem.W.callWith_K0 I.kIn T.xc.kp (mkp_of (us := []) bf T hr (by decide) I .nil hl q)
/-- C(..) as a value -/
def tValX (C : Addr) (z : Str) (fs : List Str) (ta : TA) : TE := fun σ H Q => ta σ H fun vs H1 => vs.length = fs.length ∧ ∀ (a d : Addr) (H2 : Hp), H1 a = none → H1 d = none → d ≠ a → H2 a = some (exo a C (some d)) → H2 d = some (exd d (xflds z fs vs)) → (∀ b, b ≠ a → b ≠ d → H2 b = H1 b) → Q (.ref a) H2
theorem pe_valx (bf : BF B newId initId tl) (T : XCls X.prog X.w X.K X.mg X.base newId tl x C z fs) (hr : Room 3 X.A) (hz : fs.length ≤ 100) (hg : Gl X x) (ha : PA X (e :: es) ta)
    (hdb : (x == ("__debug__" : Str)) = false := by decide) (he : starEach (e :: es) X.env = (false, eval e X.env) :: starEach es X.env := by rfl) (hpl : (backTo pos (starEach es X.env)).any (·.1) = false := by rfl) :
    PE X (.Call (.Name x p) (e :: es) [] pos) (tValX C z fs ta) := by
  refine ⟨fun pins s σ H Q I h => ?_⟩
  refine wpAny_Call_Name_kw (ld_glob I hg T.m ?_ hdb)
  refine PySem.W.callWith_K (h₀ := X.base) I.ok.mod.kin T.xc.kp (thn (ha.run pos pins s σ H _ I h) fun us s1 ⟨vs, H1, I1, r1, hl, q⟩ => ⟨I1.kIn, ?_⟩) he hpl
  exact run_mkx bf T hr I1 r1 hl hz fun a d H2 s' _ na nd ne J _ ea ed e3 _ => ⟨.ref a, H2, J, rfl, q a d H2 na nd ne ea ed e3⟩
/-- e.f of a tracked exception -/
def tXFld (K : PySem.W.Frag) (newId : String) (tl : List Value) (te : TE) (f : Str) : TE := fun σ H Q => te σ H fun x H1 => ∃ (a C d : Addr) (fs : List (Str × V)) (v : V), x = .ref a ∧ XC K newId tl C ∧ PySem.W.findIn K (.ref C) f = some none ∧ H1 a = some (exo a C (some d)) ∧ H1 d = some (exd d fs) ∧ fs.lookup f = some v ∧ Q v H1
theorem pe_xfld {te : TE} {f : Str} (he : PE X e te) (hb : attributeBase e f X.env (eval e X.env) = eval e X.env := by rfl) : PE X (.Attribute e f pos) (tXFld X.K newId tl te f) := by
  refine ⟨fun pins s σ H Q I h => ?_⟩
  refine attr_of hb (thn (he.run pins s σ H _ I h) fun u s1 ⟨x, H1, I1, rx, a, C, d, fs, v, ex, T, hno, ea, ed, l, q⟩ => ?_)
  subst ex
  obtain rfl : u = Value.ref a := rx
  obtain ⟨t1, ho⟩ := exo_at I1.hok ea
  obtain ⟨mA, hns, hr⟩ := exd_at I1.hok ed
  obtain ⟨od, ho2, hl⟩ := lookIn_ns hns
  obtain ⟨u, hu, ru⟩ := RelO.some_of (v := v) (o := mA f) (by rw [← l]; exact hr f)
  have J : PySem.W.InstAt s1.heap a _ C (some od) := ⟨ho, rfl, rfl, ho2⟩
  exact HandSPX.exc_get I1.kIn J T.ga T.gg T.ex (PySem.W.findObj_own T.hd hno rfl (by rw [hl, hu])) (handed_of ru) ⟨v, H1, I1.tok _, ru, q⟩
end
end X3
namespace X3
open PySem PySem.Spec PyProof.Rows L2 ClX
/-! ### data: what a value stands for -/
inductive D where
  | non | bl (b : Bool) | int (i : Int) | str (z : Str) | lst (xs : List D) | tup (xs : List D)
namespace D
mutual
def same : D → D → Bool
  | .non, .non => true
  | .bl a, .bl b => a == b
  | .int a, .int b => decide (a = b)
  | .str a, .str b => decide (a = b)
  | .lst xs, .lst ys => sameL xs ys
  | .tup xs, .tup ys => sameL xs ys
  | _, _ => false
def sameL : List D → List D → Bool
  | [], [] => true
  | x :: xs, y :: ys => same x y && sameL xs ys
  | _, _ => false
end
mutual
theorem same_refl : ∀ x : D, same x x = true
  | .non => rfl
  | .bl a => by simp [same]
  | .int a => by simp [same]
  | .str a => by simp [same]
  | .lst xs => by rw [same]; exact sameL_refl xs
  | .tup xs => by rw [same]; exact sameL_refl xs
theorem sameL_refl : ∀ xs : List D, sameL xs xs = true
  | [] => rfl
  | x :: xs => by rw [sameL, same_refl x, sameL_refl xs]; rfl
end
mutual
def depth : D → Nat
  | .lst xs => depthL xs + 1
  | .tup xs => depthL xs + 1
  | _ => 0
def depthL : List D → Nat
  | [] => 0
  | x :: xs => max (depth x) (depthL xs)
end
theorem depth_mem : ∀ {xs : List D} {x : D}, x ∈ xs → depth x ≤ depthL xs
  | y :: ys, x, h => by
    rcases List.mem_cons.mp h with e | h
    · rw [e, depthL]; exact Nat.le_max_left _ _
    · rw [depthL]; exact Nat.le_trans (depth_mem h) (Nat.le_max_right _ _)
def ty : D → String
  | .non => "NoneType" | .bl _ => "bool" | .int _ => "int" | .str _ => "str" | .lst _ => "list" | .tup _ => "tuple"
theorem sameL_len : ∀ {xs ys : List D}, sameL xs ys = true → xs.length = ys.length
  | [], [], _ => rfl
  | [], _ :: _, h => by cases h
  | _ :: _, [], h => by cases h
  | x :: xs, y :: ys, h => by
    rw [sameL, Bool.and_eq_true] at h
    rw [List.length_cons, List.length_cons, sameL_len h.2]
end D
mutual
inductive Rep (K : PySem.W.Frag) (H : Hp) : V → D → Prop
  | non : Rep K H .non .non
  | bl (b : Bool) : Rep K H (.bl b) (.bl b)
  | int (i : Int) : Rep K H (.int i) (.int i)
  | str (z : Str) : Rep K H (.str z) (.str z)
  | lst {a : Addr} {vs : List V} {xs : List D} : SqL K H a vs → RepL K H vs xs → xs.length ≤ sizeLine → Rep K H (.ref a) (.lst xs)
  | tup {a : Addr} {vs : List V} {xs : List D} : SqT K H a vs → RepL K H vs xs → xs.length ≤ sizeLine → Rep K H (.ref a) (.tup xs)
inductive RepL (K : PySem.W.Frag) (H : Hp) : List V → List D → Prop
  | nil : RepL K H [] []
  | cons {v : V} {x : D} {vs : List V} {xs : List D} : Rep K H v x → RepL K H vs xs → RepL K H (v :: vs) (x :: xs)
end
theorem seqT_same {K : PySem.W.Frag} {H H' : Hp} {a : Addr} {xs : List V} (e : Same H H') (h : SqT K H a xs) : SqT K H' a xs := by
  rcases h with (h | ⟨o, h⟩) | h
  · exact .inl (.inl (e _ _ h))
  · exact .inl (.inr ⟨o, e _ _ h⟩)
  · exact .inr h
mutual
theorem Rep.keep {K : PySem.W.Frag} {H H' : Hp} (k : Same H H') : ∀ {v : V} {x : D}, Rep K H v x → Rep K H' v x
  | _, _, .non => .non
  | _, _, .bl b => .bl b
  | _, _, .int i => .int i
  | _, _, .str z => .str z
  | _, _, .lst h r l => .lst (k.seq h) (RepL.keep k r) l
  | _, _, .tup h r l => .tup (seqT_same k h) (RepL.keep k r) l
theorem RepL.keep {K : PySem.W.Frag} {H H' : Hp} (k : Same H H') : ∀ {vs : List V} {xs : List D}, RepL K H vs xs → RepL K H' vs xs
  | _, _, .nil => .nil
  | _, _, .cons h r => .cons (Rep.keep k h) (RepL.keep k r)
end
theorem RepL.length {K : PySem.W.Frag} {H : Hp} : ∀ {vs : List V} {xs : List D}, RepL K H vs xs → vs.length = xs.length
  | _, _, .nil => rfl
  | _, _, .cons _ r => by rw [List.length_cons, List.length_cons, RepL.length r]
theorem RepL.get {K : PySem.W.Frag} {H : Hp} : ∀ {vs : List V} {xs : List D} {i : Nat} {x : D}, RepL K H vs xs → xs[i]? = some x → ∃ v, vs[i]? = some v ∧ Rep K H v x
  | _, _, _, _, .nil, h => by simp at h
  | _, _, 0, _, .cons h r, e => by
    simp at e
    subst e
    exact ⟨_, rfl, h⟩
  | _, _, i + 1, _, .cons h r, e => by
    obtain ⟨v, h1, h2⟩ := RepL.get (i := i) r (by simpa using e)
    exact ⟨v, by simpa using h1, h2⟩
theorem RepL.append {K : PySem.W.Frag} {H : Hp} : ∀ {vs ws : List V} {xs ys : List D}, RepL K H vs xs → RepL K H ws ys → RepL K H (vs ++ ws) (xs ++ ys)
  | _, _, _, _, .nil, s => s
  | _, _, _, _, .cons h r, s => .cons h (RepL.append r s)
theorem tyx_L {K : PySem.W.Frag} {H : Hp} {a : Addr} {xs : List V} (h : SqL K H a xs) : TyX K H (.ref a) (.type "list") := by
  rcases h with (h | ⟨o, h⟩) | ⟨o, its, n, hk, hc, _⟩
  · exact .base (.lst h)
  · exact .base (.frz h)
  · exact .kList hk hc
theorem tyx_T {K : PySem.W.Frag} {H : Hp} {a : Addr} {xs : List V} (h : SqT K H a xs) : TyX K H (.ref a) (.type "tuple") := by
  rcases h with (h | ⟨o, h⟩) | ⟨o, its, n, hk, hc, _⟩
  · exact .base (.tup h)
  · exact .fTuple h
  · exact .kTuple hk hc
theorem Rep.tyx {K : PySem.W.Frag} {H : Hp} {v : V} {x : D} (r : Rep K H v x) : TyX K H v (.type x.ty) := by
  cases r with
  | non => exact .base .non
  | bl b => exact .base (.bl b)
  | int i => exact .base (.int i)
  | str z => exact .base (.str z)
  | lst h _ _ => exact tyx_L h
  | tup h _ _ => exact tyx_T h
/-! isinstance of data -/
def D.isB : D → Bool
  | .bl _ => true
  | _ => false
def D.isI : D → Bool
  | .bl _ => true
  | .int _ => true
  | _ => false
def D.isS : D → Bool
  | .str _ => true
  | _ => false
def D.isL : D → Bool
  | .lst _ => true
  | _ => false
def D.isT : D → Bool
  | .tup _ => true
  | _ => false
theorem kit_isB (K : PySem.W.Frag) : ∀ x : D, PySem.W.kitOne K (.type x.ty) (.type "bool") = some x.isB
  | .non => kit_ty (a := "NoneType") (b := "bool") (r := false) (by decide +kernel)
  | .bl _ => kit_ty (a := "bool") (b := "bool") (r := true) (by decide +kernel)
  | .int _ => kit_ty (a := "int") (b := "bool") (r := false) (by decide +kernel)
  | .str _ => kit_ty (a := "str") (b := "bool") (r := false) (by decide +kernel)
  | .lst _ => kit_ty (a := "list") (b := "bool") (r := false) (by decide +kernel)
  | .tup _ => kit_ty (a := "tuple") (b := "bool") (r := false) (by decide +kernel)
theorem kit_isI (K : PySem.W.Frag) : ∀ x : D, PySem.W.kitOne K (.type x.ty) (.type "int") = some x.isI
  | .non => kit_ty (a := "NoneType") (b := "int") (r := false) (by decide +kernel)
  | .bl _ => kit_ty (a := "bool") (b := "int") (r := true) (by decide +kernel)
  | .int _ => kit_ty (a := "int") (b := "int") (r := true) (by decide +kernel)
  | .str _ => kit_ty (a := "str") (b := "int") (r := false) (by decide +kernel)
  | .lst _ => kit_ty (a := "list") (b := "int") (r := false) (by decide +kernel)
  | .tup _ => kit_ty (a := "tuple") (b := "int") (r := false) (by decide +kernel)
theorem kit_isS (K : PySem.W.Frag) : ∀ x : D, PySem.W.kitOne K (.type x.ty) (.type "str") = some x.isS
  | .non => kit_ty (a := "NoneType") (b := "str") (r := false) (by decide +kernel)
  | .bl _ => kit_ty (a := "bool") (b := "str") (r := false) (by decide +kernel)
  | .int _ => kit_ty (a := "int") (b := "str") (r := false) (by decide +kernel)
  | .str _ => kit_ty (a := "str") (b := "str") (r := true) (by decide +kernel)
  | .lst _ => kit_ty (a := "list") (b := "str") (r := false) (by decide +kernel)
  | .tup _ => kit_ty (a := "tuple") (b := "str") (r := false) (by decide +kernel)
theorem kit_isL (K : PySem.W.Frag) : ∀ x : D, PySem.W.kitOne K (.type x.ty) (.type "list") = some x.isL
  | .non => kit_ty (a := "NoneType") (b := "list") (r := false) (by decide +kernel)
  | .bl _ => kit_ty (a := "bool") (b := "list") (r := false) (by decide +kernel)
  | .int _ => kit_ty (a := "int") (b := "list") (r := false) (by decide +kernel)
  | .str _ => kit_ty (a := "str") (b := "list") (r := false) (by decide +kernel)
  | .lst _ => kit_ty (a := "list") (b := "list") (r := true) (by decide +kernel)
  | .tup _ => kit_ty (a := "tuple") (b := "list") (r := false) (by decide +kernel)
theorem kit_isT (K : PySem.W.Frag) : ∀ x : D, PySem.W.kitOne K (.type x.ty) (.type "tuple") = some x.isT
  | .non => kit_ty (a := "NoneType") (b := "tuple") (r := false) (by decide +kernel)
  | .bl _ => kit_ty (a := "bool") (b := "tuple") (r := false) (by decide +kernel)
  | .int _ => kit_ty (a := "int") (b := "tuple") (r := false) (by decide +kernel)
  | .str _ => kit_ty (a := "str") (b := "tuple") (r := false) (by decide +kernel)
  | .lst _ => kit_ty (a := "list") (b := "tuple") (r := false) (by decide +kernel)
  | .tup _ => kit_ty (a := "tuple") (b := "tuple") (r := true) (by decide +kernel)
theorem kit_IS (K : PySem.W.Frag) (x : D) : PySem.W.kitAny K (.type x.ty) [.type "int", .type "str"] = some (x.isI || x.isS) := by
  unfold PySem.W.kitAny
  rw [kit_isI]
  cases h : x.isI with
  | true => rfl
  | false =>
    show PySem.W.kitAny K (.type x.ty) [.type "str"] = _
    unfold PySem.W.kitAny
    rw [kit_isS]
    cases h2 : x.isS <;> rfl
theorem upd_keep {H : Hp} {p : Addr} {o : HO} (h : H p = none) : Same H (upd H p o) := fun b q e => by rw [upd_ne (ne_of_none e h)]; exact e
/-! the built-ins' names -/
theorem bt_isi : bootBuiltins "isinstance" = some (.builtin "isinstance") := by decide +kernel
theorem bt_all : bootBuiltins "all" = some (.builtin "all") := by decide +kernel
theorem bt_any : bootBuiltins "any" = some (.builtin "any") := by decide +kernel
theorem bt_sum : bootBuiltins "sum" = some (.builtin "sum") := by decide +kernel
theorem bt_sorted : bootBuiltins "sorted" = some (.builtin "sorted") := by decide +kernel
theorem bt_max : bootBuiltins "max" = some (.builtin "max") := by decide +kernel
theorem bt_abs : bootBuiltins "abs" = some (.builtin "abs") := by decide +kernel
theorem bt_bool : bootBuiltins "bool" = some (.type "bool") := by decide +kernel
theorem bt_int : bootBuiltins "int" = some (.type "int") := by decide +kernel
theorem bt_str : bootBuiltins "str" = some (.type "str") := by decide +kernel
theorem bt_list : bootBuiltins "list" = some (.type "list") := by decide +kernel
theorem bt_tuple : bootBuiltins "tuple" = some (.type "tuple") := by decide +kernel
theorem bt_dict : bootBuiltins "dict" = some (.type "dict") := by decide +kernel
theorem bt_VE : bootBuiltins "ValueError" = some (.type "ValueError") := by decide +kernel
theorem bt_LE : bootBuiltins "LookupError" = some (.type "LookupError") := by decide +kernel
/-! readings of isinstance -/
section
variable {K : PySem.W.Frag} {σ : L2.St} {H : Hp} {i : Nat} {v : V} {x : D} {n : String} {b : Bool}
theorem rd_isi {Q : VK} (h : σ[i]? = some (some v)) (r : Rep K H v x) (e : PySem.W.kitOne K (.type x.ty) (.type n) = some b) (q : Q (.bl b) H) : tCB (rIsi K) (tCons (tVar i) (tCons (tC (.ty n)) tNil)) σ H Q :=
  ⟨v, h, v, .ty n, _, _, b, rfl, .ty n, r.tyx, e, q⟩
theorem rd_isT {Q : VK} (h : σ[i]? = some (some v)) (r : Rep K H v x) (q : ∀ H', Same H H' → Q (.bl (x.isI || x.isS)) H') : tCB (rIsiT K) (tCons (tVar i) (tCons (tTup (tCons (tC (.ty "int")) (tCons (tC (.ty "str")) tNil))) tNil)) σ H Q := by
  refine ⟨v, h, (by show 2 ≤ sizeLine; decide), fun p hp => ?_⟩
  exact ⟨v, p, _, _, _, _, rfl, upd_same, .cons (.ty "int") (.cons (.ty "str") .nil), (r.keep (upd_keep hp)).tyx, kit_IS K x, q _ (upd_keep hp)⟩
end
theorem ix_of {K : PySem.W.Frag} {H : Hp} {a : Addr} {vs : List V} {i : Int} {v : V} {Q : VK} (h : SqL K H a vs ∨ SqT K H a vs) (e : atI vs i = some v) (q : Q v H) : rIx K (.ref a) (.int i) H Q := by
  rcases h with h | h
  · exact .inl ⟨_, _, _, _, rfl, rfl, h, e, q⟩
  · exact .inr (.inl ⟨_, _, _, _, rfl, rfl, h, e, q⟩)
/-- a def of the module, by its name -/
structure GFn (P : Program) (w : World) (K : PySem.W.Frag) (mg : Str → Option Value) (base : Heap) (CX : CXT) (x : Str) (ps : List Str) (dvs : List V) (k : Nat) (sp : Sp) : Prop where
  ex : ∃ (f : Addr) (fd : FuncData) (ds : List Value), FnOk P w K mg base CX k f fd ps sp ∧ mg x = some (.ref f) ∧ PySem.W.keepIn K (.ref f) = true ∧ L2.Binds K fd ps ds ∧ Vals dvs ds
theorem pe_g {X : Cx} {CX : CXT} {k : Nat} {x : Str} {ps : List Str} {sp : Sp} {dvs : List V} {E : XK} {p pos : Pos} {e : Expr} {es : List Expr} {t : TA} (G : GFn X.prog X.w X.K X.mg X.base CX x ps dvs k sp) (hr : Room k X.A) (hg : Gl X x) (hx : Passes CX X E) (ha : PA X (e :: es) t)
    (hdb : (x == ("__debug__" : Str)) = false := by decide) (he : starEach (e :: es) X.env = (false, eval e X.env) :: starEach es X.env := by rfl) (hpl : (backTo pos (starEach es X.env)).any (·.1) = false := by rfl) :
    PE X (.Call (.Name x p) (e :: es) [] pos) (tCall sp dvs E t) := by
  obtain ⟨f, fd, ds, F, hm, hk, hb, hd⟩ := G.ex
  exact pe_call F hr hg hm hk hb hd hx ha hdb he hpl
theorem pe_g0 {X : Cx} {CX : CXT} {k : Nat} {x : Str} {ps : List Str} {sp : Sp} {dvs : List V} {E : XK} {p pos : Pos} (G : GFn X.prog X.w X.K X.mg X.base CX x ps dvs k sp) (hr : Room k X.A) (hg : Gl X x) (hx : Passes CX X E) (hdb : (x == ("__debug__" : Str)) = false := by decide) :
    PE X (.Call (.Name x p) [] [] pos) (tCall sp dvs E tNil) := by
  obtain ⟨f, fd, ds, F, hm, hk, hb, hd⟩ := G.ex
  exact pe_call0 F hr hg hm hk hb hd hx hdb
theorem GFn.mk' {P : Program} {w : World} {K : PySem.W.Frag} {mg : Str → Option Value} {base : Heap} {CX : CXT} {x : Str} {ps : List Str} {k : Nat} {sp : Sp} {f : Addr} {fd : FuncData} {params : Arguments} {body : List Stmt} {scope : Scope} (F : FunD K x x params body scope [] [] f fd) (hm : mg x = some (.ref f))
    (G : FnOk P w K mg base CX k f fd ps sp) (h : ∀ (kV doc pm : Value) (an : Option Addr) (cdv ct : Value) (us : List Value), us.length = ps.length → bindArgs (PySem.W.fnOf x x params body scope .none kV doc pm an cdv ct) ⟨us, []⟩ = pure (ps.zip us)) : GFn P w K mg base CX x ps [] k sp :=
  ⟨f, fd, [], G, hm, F.kp, F.bindsN h, .nil⟩
theorem GFn.mono {P : Program} {w : World} {K : PySem.W.Frag} {mg : Str → Option Value} {base : Heap} {CX : CXT} {x : Str} {ps : List Str} {dvs : List V} {j k : Nat} {sp : Sp} (G : GFn P w K mg base CX x ps dvs j sp) (h : j ≤ k) : GFn P w K mg base CX x ps dvs k sp := by
  obtain ⟨f, fd, ds, F, hm, hk, hb, hd⟩ := G.ex
  exact ⟨f, fd, ds, F.mono h, hm, hk, hb, hd⟩
theorem seq_at {K : PySem.W.Frag} {H H' : Hp} {a : Addr} {xs : List V} (h : SqL K H a xs) (e : H' a = H a) : SqL K H' a xs := by
  rcases h with (h | ⟨o, h⟩) | h
  · exact .inl (.inl (e.trans h))
  · exact .inl (.inr ⟨o, e.trans h⟩)
  · exact .inr h
theorem seq_by {t u : TS} {D : Ends} {σ : L2.St} {H : Hp} (M : L2.St → Hp → Prop) (h2 : ∀ σ' H', M σ' H' → u D σ' H') (h1 : (∀ σ' H', M σ' H' → u D σ' H') → t { D with nx := u D } σ H) : tSeq t u D σ H := h1 h2
end X3
namespace X3
open PySem PySem.Spec PyProof.Rows L2 ClX
open L2H (RoomH PinOk)
theorem roomH_mark {k : Nat} {A : Around} {v : Option Value} (r : Room k A) : RoomH k (A.mark v) := ⟨r.dp, r.un⟩
abbrev EO := Addr × Obj
/-- a def that is called with the caught exception p in hand, raising nothing -/
structure FnP2 (P : Program) (w : World) (K : PySem.W.Frag) (mg : Str → Option Value) (base : Heap) (CX : CXT) (k : Nat) (f : Addr) (fd : FuncData) (ps : List Str) (sp : EO → Sp) : Prop where
  len : ∀ p vs H Q E, sp p vs H Q E → vs.length = ps.length
  run : ∀ (A : Around) (outer : List Env) (s : Shared) (H : Hp) (args : Args) (us : List Value) (vs : List V) (Q : VK) (E : XK) (p : EO), RoomH k A → PinOk outer H s p → Env0 P w K mg base A outer s H → BindsTo s fd args (ps.zip us) → Vals vs us → sp p vs H Q E →
    codeAny (model P w) A (.call (.ref f) args) (CR CX outer P w H s Q E) s
theorem fn_ofP2 {CX : CXT} {P : Program} {w : World} {K : PySem.W.Frag} {mg : Str → Option Value} {base : Heap} {k : Nat} {f : Addr} {fd : FuncData} {name qual : Str} {params : Arguments} {body : List Stmt} {scope : Scope} {N ps : List Str} {sp : EO → Sp}
    (F : FunD K name qual params body scope [] [] f fd) (S : FnScope N ps scope)
    (len : ∀ p vs H Q E, sp p vs H Q E → vs.length = ps.length)
    (hbody : ∀ (cdv : Value) (A : Around) (outer : List Env) (s : Shared) (H : Hp) (vs : List V) (Q : VK) (E : XK) (p : EO), RoomH k (A.deeper (envOfC qual scope s.heap.objs.size f cdv)) → sp p vs H Q E →
      ∃ t, PSs (L2H.cxH CX P w K mg base N qual scope f cdv A outer s H E p) body t ∧ t { nx := fun _ H' => Q .non H', rt := Q } (L2.start N vs) H) :
    FnP2 P w K mg base CX (k + 1) f fd ps sp := by
  obtain ⟨oc, od, dV, kV, doc, pm, an, cdv, ct, osl, rfl, lk, hcd, _, _⟩ := F.ex
  refine ⟨len, fun A outer s H args us vs Q E p hr hpin e0 hb r hsp => ?_⟩
  have hl := len _ _ _ _ _ hsp
  have KX : K.In s.heap := e0.mod.kin.keeps fun b o e => (e0.bs b o e).1
  have lim : s.heap.NoLimit := e0.mod.nolimit.keeps fun b o e => (e0.bs b o e).1
  have hkind : ∀ y ∈ ps.zip us, scope.names.lookup y.1 = some .local ∨ (scope.names.lookup y.1 = some .cell ∧ ((cellsFrom (s.heap.objs.size + 1) scope.names []).lookup y.1).isSome = true) := fun ⟨n, v⟩ hy => by
    rcases S.par n (List.of_mem_zip hy).1 with q | q
    · exact .inl q
    · exact .inr ⟨q, PySem.W.cellsFrom_some _ _ _ (.inl q)⟩
  refine codeAny_call_function hr.depth (KX _ _ lk) rfl S.co S.gen rfl (PySem.W.codeRec_of KX hcd) (hb _ _ _ _ ?_)
  refine wpAny_newFunctionEnv_cells S.kind hkind fun env he s1 x => ?_
  subst he
  refine ⟨lim.keeps x.toInCall.keep, codeAny_func ?_⟩
  obtain ⟨t, ht, hq⟩ := hbody cdv A outer s H vs Q E p (hr.deeper _) hsp
  refine wpAny_mono (ht.run [] s1 (L2.start N vs) H _ (L2H.inv_startH S hpin e0 hl r x) hq) (fun fl s' hs => ?_) fun e s' hs => hs
  cases fl with
  | ret u =>
    obtain ⟨v, σ', H', J, rv, q⟩ := hs
    exact ⟨v, H', J.os, J.bare, J.base, J.hok, rv, q⟩
  | next =>
    obtain ⟨σ', H', J, q⟩ := hs
    exact ⟨.non, H', J.os, J.bare, J.base, J.hok, rfl, q⟩
  | brk =>
    obtain ⟨_, _, _, q⟩ := hs
    exact False.elim q
  | cont =>
    obtain ⟨_, _, _, q⟩ := hs
    exact False.elim q
/-- f(e, ..) from a suite that holds p -/
theorem pe_callP2 {X : Cx} {k : Nat} {f : Addr} {fd : FuncData} {ps : List Str} {sp : EO → Sp} {x : Str} {q pos : Pos} {e : Expr} {es : List Expr} {t : TA} {p : EO} (F : FnP2 X.prog X.w X.K X.mg X.base (L2.CX X.prog X.w) k f fd ps sp) (hr : RoomH k X.A) (hp : p ∈ X.pn) (hg : Gl X x) (hm : X.mg x = some (.ref f)) (hk : PySem.W.keepIn X.K (.ref f) = true) (hb : Binds X.K fd ps [])
    (ha : PA X (e :: es) t) (hdb : (x == ("__debug__" : Str)) = false := by decide) (he : starEach (e :: es) X.env = (false, eval e X.env) :: starEach es X.env := by rfl) (hpl : (backTo pos (starEach es X.env)).any (·.1) = false := by rfl) :
    PE X (.Call (.Name x q) (e :: es) [] pos) (tCall (sp p) [] E0 t) := by
  refine ⟨fun pins s σ H Q I h => ?_⟩
  refine wpAny_Call_Name_kw (ld_glob I hg hm ?_ hdb)
  refine PySem.W.callWith_K (h₀ := X.base) I.ok.mod.kin hk (thn (ha.run pos pins s σ H _ I h) fun us s1 ⟨vs, H1, I1, r, q⟩ => ⟨I1.kIn, ?_⟩) he hpl
  have q : sp p vs H1 Q E0 := by
    have q := q
    dsimp only at q
    rw [List.append_nil] at q
    exact q
  have hl : us.length = ps.length := by rw [← r.length]; exact F.len _ _ _ _ _ q
  have b := hb s1 us I1.kIn (by rw [List.append_nil]; exact hl)
  rw [List.append_nil] at b
  have P1 := I1.pin p (List.mem_append_left _ hp)
  have hpin : PinOk X.stack H1 s1 p := ⟨P1.1, P1.2.1, fun hm => (List.mem_cons.mp (I1.stkSub p.1 hm)).elim P1.2.2.1 P1.2.2.2.1, P1.2.2.2.2⟩
  refine wpAny_call (codeAny_mono (F.run X.A X.stack s1 H1 ⟨us, []⟩ us vs Q E0 p hr hpin I1.env0 b r q) fun r s' hq => ?_)
  cases r with
  | error e => exact passL pins σ H1 s1 e s' I1 hq
  | ok fl =>
    cases fl with
    | ret u => exact I1.after hq
    | next => exact False.elim hq
    | brk => exact False.elim hq
    | cont => exact False.elim hq
/-- the same by the def's name -/
structure GFnP2 (P : Program) (w : World) (K : PySem.W.Frag) (mg : Str → Option Value) (base : Heap) (x : Str) (ps : List Str) (k : Nat) (sp : EO → Sp) : Prop where
  ex : ∃ (f : Addr) (fd : FuncData), FnP2 P w K mg base (L2.CX P w) k f fd ps sp ∧ mg x = some (.ref f) ∧ PySem.W.keepIn K (.ref f) = true ∧ Binds K fd ps []
theorem pe_g2 {X : Cx} {k : Nat} {ps : List Str} {sp : EO → Sp} {x : Str} {q pos : Pos} {e : Expr} {es : List Expr} {t : TA} {p : EO} (G : GFnP2 X.prog X.w X.K X.mg X.base x ps k sp) (hr : RoomH k X.A) (hp : p ∈ X.pn) (hg : Gl X x)
    (ha : PA X (e :: es) t) (hdb : (x == ("__debug__" : Str)) = false := by decide) (he : starEach (e :: es) X.env = (false, eval e X.env) :: starEach es X.env := by rfl) (hpl : (backTo pos (starEach es X.env)).any (·.1) = false := by rfl) :
    PE X (.Call (.Name x q) (e :: es) [] pos) (tCall (sp p) [] E0 t) := by
  obtain ⟨f, fd, F, hm, hk, hb⟩ := G.ex
  exact pe_callP2 F hr hp hg hm hk hb ha hdb he hpl
/-! isinstance of the caught exception -/
def rIsX (K : PySem.W.Frag) (p : EO) : List V → Hp → VK → Prop := fun xs H Q => ∃ (c : V) (u : Value) (C d : Addr) (fs : List (Str × V)) (b : Bool), xs = [.ref p.1, c] ∧ ClsV c u ∧ Zc (.ref C) (some d) p.2 ∧ ExcC K C ∧ H d = some (.xd fs) ∧ PySem.W.kitOne K (.ref C) u = some b ∧ Q (.bl b) H
theorem call_isX {X : Cx} {p : EO} (hp : p ∈ X.pn) (hf : ∃ vs, p.2.data = .fields vs) : CallR X (.builtin "isinstance") (rIsX X.K p) := by
  intro pins s σ H xs us Q I r h
  obtain ⟨c, cv, C, d, fs, b, rfl, hcv, hz, T, ed, e, q⟩ := h
  obtain ⟨u1, u2, rfl, r1, r2⟩ := vals2 r
  have e2 := hcv.eq r2
  subst e2
  cases r1
  obtain ⟨ha, _⟩ := I.pin p (List.mem_append_left _ hp)
  obtain ⟨vs, hd⟩ := hf
  obtain ⟨mA, hns, _⟩ := (show ObjOk X.prog X.w H s.heap d (.xd fs) from I.hok d _ ed)
  obtain ⟨od, ho, _⟩ := lookIn_ns hns
  have J : PySem.W.InstAt s.heap p.1 p.2 C (some od) := ⟨ha, hz.1, by unfold PySem.W.notCls; rw [hd] <;> rfl, by rw [hz.2]; exact ho⟩
  have hcl : (PySem.W.clsIn X.K C).isSome = true := by
    obtain ⟨cd, hc, _⟩ := PySem.W.any_some T.hd
    rw [hc]
    rfl
  exact PySem.W.kia_one (PySem.W.kitx_exc hcl T.hg T.hk T.hs T.ha T.hn T.ht T.hm) I.kIn J e (fun z => nomatch z) fun tk => ⟨.bl b, H, I.tok tk, rfl, q⟩
/-! e.f of the caught exception -/
def tXfP (K : PySem.W.Frag) (p : EO) (f : Str) (te : TE) : TE := fun σ H Q => te σ H fun x H1 => x = .ref p.1 ∧ ∃ (C d : Addr) (fs : List (Str × V)) (v : V), Zc (.ref C) (some d) p.2 ∧ XfC K C ∧ PySem.W.findIn K (.ref C) f = some none ∧ H1 d = some (.xd fs) ∧ fs.lookup f = some v ∧ Q v H1
theorem pe_xfP {X : Cx} {p : EO} {e : Expr} {te : TE} {pos : Pos} {n : Str} (hp : p ∈ X.pn) (hf : ∃ vs, p.2.data = .fields vs) (he : PE X e te) (hb : attributeBase e n X.env (eval e X.env) = eval e X.env := by rfl) :
    PE X (.Attribute e n pos) (tXfP X.K p n te) := by
  refine ⟨fun pins s σ H Q I h => ?_⟩
  refine attr_of hb (thn (he.run pins s σ H _ I h) fun u s1 ⟨x, H1, I1, rx, ex, C, d, fs, v, hz, T, hno, ed, l, q⟩ => ?_)
  subst ex
  obtain rfl : u = Value.ref p.1 := rx
  obtain ⟨ha, _⟩ := I1.pin p (List.mem_append_left _ hp)
  obtain ⟨vs, hd⟩ := hf
  obtain ⟨mA, hns, hr⟩ := (show ObjOk X.prog X.w H1 s1.heap d (.xd fs) from I1.hok d _ ed)
  obtain ⟨od, ho, hl⟩ := lookIn_ns hns
  obtain ⟨u, hu, ru⟩ := RelO.some_of (v := v) (o := mA n) (by rw [← l]; exact hr n)
  have J : PySem.W.InstAt s1.heap p.1 p.2 C (some od) := ⟨ha, hz.1, by unfold PySem.W.notCls; rw [hd] <;> rfl, by rw [hz.2]; exact ho⟩
  exact HandSPX.exc_get I1.kIn J T.ga T.gg T.exC (PySem.W.findObj_own T.hdC hno rfl (by rw [hl, hu])) (handed_of ru) ⟨v, H1, I1.tok _, ru, q⟩
end X3
namespace X3
open PySem PySem.Spec PyProof.Rows L2 ClX
abbrev TSX := Addr → Obj → Value → Option Addr → TS
/-- the ends of a suite whose name (slot i, when there is one) goes -/
def endsGo : Option Nat → Ends → Ends
  | none, D => D
  | some i, D => { nx := fun σ' H' => D.nx (σ'.set i none) H', rt := D.rt, bk := fun σ' H' => D.bk (σ'.set i none) H', ct := fun σ' H' => D.ct (σ'.set i none) H' }
def setGo (σ : L2.St) (a : Addr) : Option Nat → L2.St
  | none => σ
  | some i => σ.set i (some (.ref a))
/-- the clauses' wishes: class, slot of the name, suite -/
def wAll (K : PySem.W.Frag) (Wout : WX) (D : Ends) : List (Value × Option Nat × TSX) → WX
  | [] => Wout
  | (c, i, ts) :: r => fun cls d σ H => ∃ b, PySem.W.exmOne K cls c = some b ∧ (b = true → ∀ (a : Addr) (oe : Obj), H a = none → Zc cls d oe → (∃ vs, oe.data = .fields vs) → ts a oe cls d (endsGo i D) (setGo σ a i) H) ∧ (b = false → wAll K Wout D r cls d σ H)
inductive HdsAll (X : Cx) : List ExceptHandler → List (Value × Option Nat × TSX) → Prop
  | nil : HdsAll X [] []
  | bare {x : Str} {c : Value} {ts : TSX} {b₀ : Stmt} {suite : List Stmt} {np pos' : Pos} {hds : List ExceptHandler} {l : List (Value × Option Nat × TSX)} (hc : Names X x c)
      (hsu : ∀ (a : Addr) (oe : Obj) (cls : Value) (d : Option Addr) (pn : List (Addr × Obj)), Zc cls d oe → (∃ vs, oe.data = .fields vs) → PSs (X.suite a ((a, oe) :: pn)) (b₀ :: suite) (ts a oe cls d)) (r : HdsAll X hds l) :
      HdsAll X (.ExceptHandler (some (.Name x np)) none (b₀ :: suite) pos' :: hds) ((c, none, ts) :: l)
  | as {x n : Str} {i : Nat} {c : Value} {ts : TSX} {b₀ : Stmt} {suite : List Stmt} {np pos' : Pos} {hds : List ExceptHandler} {l : List (Value × Option Nat × TSX)} (hN : X.N.Nodup) (hi : X.N[i]? = some n) (hln : X.env.kindOf n = some .local) (hc : Names X x c)
      (hsu : ∀ (a : Addr) (oe : Obj) (cls : Value) (d : Option Addr) (pn : List (Addr × Obj)), Zc cls d oe → (∃ vs, oe.data = .fields vs) → PSs (X.suite a ((a, oe) :: pn)) (b₀ :: suite) (ts a oe cls d)) (r : HdsAll X hds l) :
      HdsAll X (.ExceptHandler (some (.Name x np)) (some n) (b₀ :: suite) pos' :: hds) ((c, some i, ts) :: l)
section
variable {X : Cx} {body : List Stmt} {h₀ : ExceptHandler} {hds : List ExceptHandler} {l : List (Value × Option Nat × TSX)} {pos : Pos} {tb : WX → TS} {Wout : WX}
theorem ps_try_all (hs : X.stack = X.env :: X.outer) (hf : X.env.frame = some X.env.locals) (tk : Takes X Wout)
    (hb : ∀ (W : WX) (pn : List (Addr × Obj)) (xe : Value → Shared → Prop), Takes (X.tr pn xe) W → PassesOwn (model X.prog X.w) X.A X.env xe → PSs (X.tr pn xe) body (tb W))
    (hh : HdsAll X (h₀ :: hds) l) : PS X (.Try body (h₀ :: hds) [] [] pos) (fun D σ H => tb (wAll X.K Wout D l) D σ H) := by
  refine ⟨fun pins s σ H D I h => ?_⟩
  have ok := I.ok
  have hfr : X.A.frames = some (X.env :: X.outer) := by rw [ok.frames, hs]
  refine wpAny_Try_except ?_
  refine wpAny_mono ((hb (wAll X.K Wout D l) (X.pn ++ pins) (fun e s₁ => wpAny (model X.prog X.w) X.A (noteFrame e X.env) (fun _ s₂ => wpAny (model X.prog X.w) X.A (setFlight e none) (fun _ s₃ =>
    wpAny (model X.prog X.w) X.A (handleBy e X.env (h₀ :: hds)) (SP X pins D) X.xe s₃) X.xe s₂) X.xe s₁) (fun u s' xx => ?_) PassesOwn.looking).run [] s σ H D (I.toTry _) h) (fun f s1 hsp => ?_) (fun e s1 he => he)
  · obtain ⟨a, B, sI, pins', σ', H', cls, d, rfl, J', nb, up, sky, na, os, ag, w⟩ := xx
    have J : Inv X pins σ' H' sI := J'.ofTry ok
    have sky' : Sky B (X.env :: X.outer) a (Zc cls d) X.env.locals s'.heap := by rw [← hs]; exact sky
    show wpAny (model X.prog X.w) X.A (noteFrame (.ref a) X.env) _ _ _
    refine Sky.land Zc.steady hfr hf sky' fun h3 fl3 up3 => ?_
    have J3 : Inv X pins σ' H' { s' with heap := h3 } := J.landed nb fl3.1 (up.trans up3) os ag
    obtain ⟨oe3, vs3, he3, hz3, hd3⟩ := fl3.there
    have nfr : a ∉ frs (X.env :: X.outer) := fun hm => by
      obtain ⟨_, o', e', hnf⟩ := fl3.2.2.1.mem hm
      rw [he3] at e'; cases e'
      exact hnf _ hd3
    have nL : a ≠ X.env.locals := fun z => nfr (List.mem_filterMap.mpr ⟨X.env, List.mem_cons_self, by rw [hf, z]⟩)
    have nF : a ∉ X.fs := fun hm => by
      obtain ⟨e, he, q⟩ := List.mem_filterMap.mp hm
      exact nfr (List.mem_filterMap.mpr ⟨e, List.mem_cons_of_mem _ he, q⟩)
    have S3 := J3.suite he3 hd3 na nL nF
    have LT : PySem.W.Looks (model X.prog X.w) h3 (typeOf (.ref a)) cls := fun A Q E s k q => wpAny_typeOf_ref (k _ _ he3) (by rw [hz3.1]; exact q)
    have test : ∀ {x : Str} {c : Value} {np : Pos}, Names X x c → ∀ {Q : Value → Shared → Prop} {E : Value → Shared → Prop}, Q c { s' with heap := h3 } → wpAny (model X.prog X.w) (X.A.mark (some (.ref a))) (eval (.Name x np) X.env) Q E { s' with heap := h3 } := fun {x c np} hc {Q E} q => by
      obtain ⟨hg, hdbg, hm | ⟨hm, hv, hnn⟩⟩ := hc
      · exact ld_glob (X := X.suite a ((a, oe3) :: (X.pn ++ pins))) S3 hg hm q hdbg
      · exact ld_blt (X := X.suite a ((a, oe3) :: (X.pn ++ pins))) S3 hg hm hv q hnn hdbg
    have go : ∀ {hds' : List ExceptHandler} {l' : List (Value × Option Nat × TSX)}, HdsAll X hds' l' → wAll X.K Wout D l' cls d σ' H' →
        wpAny (model X.prog X.w) X.A (handleBy (.ref a) X.env hds') (SP X pins D) X.xe { s' with heap := h3 } := by
      intro hds' l' hk
      induction hk with
      | nil =>
        intro w
        refine wpAny_handleBy_nil ?_
        obtain ⟨k1, k2, k3, oe, vs, T, oT, ts', he, hz, hd, h1, hr⟩ := id fl3
        unfold PySem.passOn
        refine wpAny_bind (wpAny_field he hd h1 ?_)
        rw [if_neg (show ¬ ((Value.ref T == Value.none) = true) from by simp)]
        have fin : wpAny (model X.prog X.w) X.A (setFlight (.ref a) X.env.frame) (fun _ s4 => wpAny (model X.prog X.w) X.A (throw (.ref a) : Sem Flow) (SP X pins D) X.xe s4) X.xe { s' with heap := h3 } := by
          rw [hf]
          refine HandSPX.setFlight_upZ fl3 fun h4 hh4 up4 => wpAny_throw (tk _ _ ?_)
          exact ⟨a, B, sI, pins, σ', H', cls, d, rfl, J, nb, (up.trans up3).trans up4, .inr (.inr (by rw [hs]; exact hh4)), na, os, ag, w⟩
        first
          | exact wpAny_bind (wpAny_pure (wpAny_bind fin))
          | exact wpAny_bind fin
      | @bare x c ts b₀ suite np pos' hds2 l2 hc hsu r ih =>
        intro w
        obtain ⟨b, hb1, hyes, hno⟩ := w
        refine wpAny_handleBy_cons (codeAny_handlers_test ?_) (by intro q; cases q)
        have LM := PySem.W.exm_one (M := model X.prog X.w) (J3.kIn) LT hb1
        refine test hc (LM.here ?_)
        cases b with
        | false => exact ih (hno rfl)
        | true =>
          refine codeAny_handlers_suite ?_
          refine HandSPX.lands_againZ fl3 fun h4 fl4 up4 => ?_
          have J4 : Inv X pins σ' H' { s' with heap := h4 } := J.landed nb fl4.1 ((up.trans up3).trans up4) os ag
          obtain ⟨oe4, vs4, he4, hz4, hd4⟩ := fl4.there
          have S4 := J4.suite he4 hd4 na nL nF
          refine wpAny_mono ((hsu a oe4 cls d (X.pn ++ pins) hz4 ⟨_, hd4⟩).run [] _ _ H' _ S4 (hyes rfl a oe4 na hz4 ⟨_, hd4⟩)) (fun f s6 hsp => ?_) (fun _ _ z => False.elim z)
          cases f with
          | next =>
            obtain ⟨σ6, H6, S6, q6⟩ := hsp
            exact ⟨_, _, S6.unsuite ok, q6⟩
          | brk =>
            obtain ⟨σ6, H6, S6, q6⟩ := hsp
            exact ⟨_, _, S6.unsuite ok, q6⟩
          | cont =>
            obtain ⟨σ6, H6, S6, q6⟩ := hsp
            exact ⟨_, _, S6.unsuite ok, q6⟩
          | ret u =>
            obtain ⟨v6, σ6, H6, S6, r6, q6⟩ := hsp
            exact ⟨_, _, _, S6.unsuite ok, r6, q6⟩
      | @as x n i c ts b₀ suite np pos' hds2 l2 hN hi hln hc hsu r ih =>
        intro w
        obtain ⟨b, hb1, hyes, hno⟩ := w
        have hloc : Loc X.env.scope n := .inl hln
        refine wpAny_handleBy_cons (codeAny_handlers_test ?_) (by intro q; cases q)
        have LM := PySem.W.exm_one (M := model X.prog X.w) (J3.kIn) LT hb1
        refine test hc (LM.here ?_)
        cases b with
        | false => exact ih (hno rfl)
        | true =>
          refine codeAny_handlers_suite_as ?_
          refine HandSPX.lands_againZ fl3 fun h4 fl4 up4 => ?_
          have J4 : Inv X pins σ' H' { s' with heap := h4 } := J.landed nb fl4.1 ((up.trans up3).trans up4) os ag
          obtain ⟨oe4, vs4, he4, hz4, hd4⟩ := fl4.there
          have S4 := J4.suite he4 hd4 na nL nF
          refine store_ok (X := X.suite a ((a, oe4) :: (X.pn ++ pins))) (v := .ref a) S4 hN hi hloc rfl (fun s5 S5 => ?_) (.inr hln)
          refine wpAny_mono ((hsu a oe4 cls d (X.pn ++ pins) hz4 ⟨_, hd4⟩).run [] s5 _ H' _ S5 (hyes rfl a oe4 na hz4 ⟨_, hd4⟩)) (fun f s6 hsp => ?_) (fun _ _ z => False.elim z)
          have end_ : ∀ {σ6 : L2.St} {H6 : Hp} {Q : Shared → Prop}, Inv (X.suite a ((a, oe4) :: (X.pn ++ pins))) [] σ6 H6 s6 → (∀ s7, Inv X pins (σ6.set i none) H6 s7 → Q s7) →
              wpAny (model X.prog X.w) X.A (do bindName X.env n .none; unbindBehindTheSuite X.env n pos') (fun _ s7 => Q s7) X.xe s6 := fun {σ6 H6 Q} S6 hq => gone_ok (S6.unsuite ok) hN hi hln hq
          cases f with
          | next =>
            obtain ⟨σ6, H6, S6, q6⟩ := hsp
            exact end_ S6 fun s7 J7 => ⟨_, _, J7, q6⟩
          | brk =>
            obtain ⟨σ6, H6, S6, q6⟩ := hsp
            exact end_ S6 fun s7 J7 => ⟨_, _, J7, q6⟩
          | cont =>
            obtain ⟨σ6, H6, S6, q6⟩ := hsp
            exact end_ S6 fun s7 J7 => ⟨_, _, J7, q6⟩
          | ret u =>
            obtain ⟨v6, σ6, H6, S6, r6, q6⟩ := hsp
            exact end_ S6 fun s7 J7 => ⟨_, _, _, J7, r6, q6⟩
    exact go hh w
  · cases f with
    | next =>
      obtain ⟨σ', H', J', q⟩ := hsp
      exact wpAny_execs_nil ⟨σ', H', J'.ofTry ok, q⟩
    | brk =>
      obtain ⟨σ', H', J', q⟩ := hsp
      exact ⟨σ', H', J'.ofTry ok, q⟩
    | cont =>
      obtain ⟨σ', H', J', q⟩ := hsp
      exact ⟨σ', H', J'.ofTry ok, q⟩
    | ret u =>
      obtain ⟨v, σ', H', J', r, q⟩ := hsp
      exact ⟨v, σ', H', J'.ofTry ok, r, q⟩
end
end X3
namespace X3
open PySem PySem.Spec PyProof.Rows L2 ClX He
/-! ### the Hook: the module's names and the boot's statics, a Bool over the part, the defs -/
def asM (g : Addr → Option Obj) : Nat → List Addr
  | 0 => [mainGlobals]
  | n + 1 => growD g (asM g n)
def obsM (n : Nat) (ex : PySem.W.Frag → Bool) (fn : List DefD) (g : Addr → Option Obj) : AlD :=
  (ex (frG g (asM g n ++ [cStatics])) && fn.all fun d => d.ok (frG g (asM g n ++ [cStatics])), fn.map fun d => fnW (frG g (asM g n ++ [cStatics])) d.at_)
structure SaysM (ex : PySem.W.Frag → Bool) (fn : List DefD) (K : PySem.W.Frag) : Prop where
  eq : ((ex K && fn.all fun d => d.ok K, fn.map fun d => fnW K d.at_) : AlD) = valD fn
def hookM (n : Nat) (ex : PySem.W.Frag → Bool) (fn : List DefD) : PySem.W.Hook where
  α := AlD
  obs := fun s => obsM n ex fn s.heap.get?
  val := fun _ => valD fn
  says := fun _ h => ∃ K : PySem.W.Frag, K.In h ∧ SaysM ex fn K
  of := fun _ _ e => ⟨_, frG_in, ⟨e⟩⟩
  keeps := fun _ _ _ ⟨K, hK, c⟩ k => ⟨K, PySem.W.Frag.In.keeps hK k, c⟩
theorem obsM_eq {n : Nat} {ex : PySem.W.Frag → Bool} {fn : List DefD} {g : Addr → Option Obj} {s : Shared} (h : ∀ a, g a = s.heap.get? a) : obsM n ex fn g = (hookM n ex fn).obs s := by
  have e : g = s.heap.get? := funext h
  rw [e] <;> rfl
section
variable {ex : PySem.W.Frag → Bool} {fn : List DefD} {K : PySem.W.Frag}
theorem SaysM.more (c : SaysM ex fn K) : ex K = true := (ba (show (ex K && fn.all fun d => d.ok K) = true from congrArg (fun z : AlD => z.1) c.eq)).1
theorem SaysM.def_ (c : SaysM ex fn K) (i : Nat) {d : DefD} (h : fn[i]? = some d := by rfl) : ∃ fd, FunD K d.name d.qual d.params d.body d.scope (d.dvs K) (d.kws K) (fAd K d.at_) fd := by
  have c2 := (ba (show (ex K && fn.all fun d => d.ok K) = true from congrArg (fun z : AlD => z.1) c.eq)).2
  have e : fn.map (fun d => fnW K d.at_) = fn.map DefD.val := congrArg (fun z : AlD => z.2) c.eq
  have e2 : (fn.map fun d => fnW K d.at_)[i]? = (fn.map DefD.val)[i]? := by rw [e]
  rw [List.getElem?_map, List.getElem?_map, h] at e2
  exact DefD.funD (Option.some.inj e2) (List.all_eq_true.mp c2 d (List.mem_of_getElem? h))
end
/-! ### what the written part says of one own exception class -/
/-- the top def, the class's one def -/
def clsDef (s : Stmt) : Stmt := match s with
  | .ClassDef _ _ _ b _ _ _ _ _ _ _ => b.getD 0 (.Pass ⟨0, 0, 0, 0⟩)
  | _ => .Pass ⟨0, 0, 0, 0⟩
def gloB (K : PySem.W.Frag) (x : Str) : Bool := eqO (PySem.W.nsIn K mainGlobals x) (some (some (.ref (ga K x))))
def freeB (K : PySem.W.Frag) (x : Str) : Bool := eqO (PySem.W.nsIn K mainGlobals x) (some none)
theorem gloB_ok {K : PySem.W.Frag} {x : Str} {h : Heap} {mg : Str → Option Value} (X : K.In h) (G : h.Ns mainGlobals mg) (c : gloB K x = true) : mg x = some (.ref (ga K x)) := PySem.W.mg_of X G (eqO_ok c)
theorem freeB_ok {K : PySem.W.Frag} {x : Str} {h : Heap} {mg : Str → Option Value} (X : K.In h) (G : h.Ns mainGlobals mg) (c : freeB K x = true) : mg x = none := PySem.W.mg_none_of X G (eqO_ok c)
def xcB (K : PySem.W.Frag) (newId : String) (tl : List Value) (C : Addr) : Bool :=
  PySem.W.excInitIn K C tl newId && (PySem.W.excOver K C tl && (PySem.W.hasDictIn K C && (eqO (PySem.W.findIn K (.ref C) "__setattr__") (some (some (.builtin "object.__setattr__"))) && (eqO (PySem.W.findIn K (.ref C) "__getattribute__") (some (some (.builtin "BaseException.__getattribute__"))) &&
  (eqO (PySem.W.findIn K (.ref C) "__getattr__") (some none) && (decide (PySem.W.subIn K (.ref C) (.type "BaseException") = some true) && (decide (PySem.W.typeIn K (.ref C) = some (.type "type")) && PySem.W.keepIn K (.ref C))))))))
theorem xcB_ok {K : PySem.W.Frag} {newId : String} {tl : List Value} {C : Addr} (h : xcB K newId tl C = true) : XC K newId tl C := by
  obtain ⟨h1, h⟩ := ba h
  obtain ⟨h2, h⟩ := ba h
  obtain ⟨h3, h⟩ := ba h
  obtain ⟨h4, h⟩ := ba h
  obtain ⟨h5, h⟩ := ba h
  obtain ⟨h6, h⟩ := ba h
  obtain ⟨h7, h⟩ := ba h
  obtain ⟨h8, h9⟩ := ba h
  exact ⟨h1, h2, h3, eqO_ok h4, eqO_ok h5, eqO_ok h6, of_decide_eq_true h7, of_decide_eq_true h8, h9⟩
def excCB (K : PySem.W.Frag) (C : Addr) : Bool :=
  eqO (PySem.W.findIn K (.ref C) "__class__") (some (some (.builtin "object.__class__"))) && (eqO (PySem.W.specialIn K (.builtin "object.__class__") "__get__") (some (some (.builtin "getset_descriptor.__get__"))) && (decide (PySem.W.takesIn K (.builtin "object.__class__") = some true) && decide (PySem.W.mroIn K C (.type "object") = some true)))
theorem excCB_ok {K : PySem.W.Frag} {newId : String} {tl : List Value} {C : Addr} (x : XC K newId tl C) (h : excCB K C = true) : ExcC K C := by
  obtain ⟨h1, h⟩ := ba h
  obtain ⟨h2, h⟩ := ba h
  obtain ⟨h3, h4⟩ := ba h
  exact ⟨x.ga, x.gg, x.ex, x.hd, eqO_ok h1, eqO_ok h2, of_decide_eq_true h3, of_decide_eq_true h4⟩
theorem xfC_of {K : PySem.W.Frag} {newId : String} {tl : List Value} {C : Addr} (x : XC K newId tl C) : XfC K C := ⟨x.ga, x.gg, x.ex, x.hd⟩
/-- class x: its facts, its fields' names free, its __init__ a function at ma -/
def clsB (K : PySem.W.Frag) (newId : String) (tl : List Value) (fs : List Str) (x : Str) : Bool :=
  gloB K x && (xcB K newId tl (ga K x) && (eqO (PySem.W.findIn K (.ref (ga K x)) "word") (some none) && ((fs.all fun f => eqO (PySem.W.findIn K (.ref (ga K x)) f) (some none)) &&
  (eqO (PySem.W.findIn K (.ref (ga K x)) "__init__") (some (some (.ref (ma K (ga K x) "__init__")))) && decide (PySem.W.typeIn K (.ref (ma K (ga K x) "__init__")) = some (.type "function"))))))
theorem cls_of {P : Program} {w : World} {K : PySem.W.Frag} {mg : Str → Option Value} {base h : Heap} {newId : String} {tl : List Value} {fs : List Str} {x z : Str} {fd : FuncData} (X : K.In h) (G : h.Ns mainGlobals mg) (c : clsB K newId tl fs x = true)
    (F : FnOk P w K mg base CX0 2 (ma K (ga K x) "__init__") fd ("self" :: fs) (spX K newId tl z fs)) (b : Binds K fd ("self" :: fs) []) : XCls P w K mg base newId tl x (ga K x) z fs := by
  obtain ⟨h1, c⟩ := ba c
  obtain ⟨h2, c⟩ := ba c
  obtain ⟨h3, c⟩ := ba c
  obtain ⟨h4, c⟩ := ba c
  obtain ⟨h5, h6⟩ := ba c
  exact ⟨gloB_ok X G h1, xcB_ok h2, eqO_ok h3, fun f hf => eqO_ok (List.all_eq_true.mp h4 f hf), _, fd, eqO_ok h5, of_decide_eq_true h6, F, b⟩
/-- base x: read as a class, its __init__ a plain def at ma -/
def baseB (K : PySem.W.Frag) (x : Str) : Bool :=
  gloB K x && (PySem.W.readsIn K (ga K x) (.type "type") && (eqO (PySem.W.specialIn K (.ref (ga K x)) "__getattribute__") (some (some (.builtin "type.__getattribute__"))) && ((match PySem.W.findCls K (.ref (ga K x)) (.type "type") "__init__" with
    | some (.val (.ref f)) => decide (f = ma K (ga K x) "__init__")
    | _ => false) && PySem.W.keepIn K (.ref (ma K (ga K x) "__init__")))))
theorem base_of {P : Program} {w : World} {K : PySem.W.Frag} {mg : Str → Option Value} {base h : Heap} {newId : String} {tl : List Value} {x : Str} {fd : FuncData} (X : K.In h) (G : h.Ns mainGlobals mg) (c : baseB K x = true) (nm : okN x = true)
    (F : FnOk P w K mg base CX0 1 (ma K (ga K x) "__init__") fd ["self", "word"] (spB K newId tl)) (b : Binds K fd ["self", "word"] []) : BaseI P w K mg base newId tl x := by
  obtain ⟨h1, c⟩ := ba c
  obtain ⟨h2, c⟩ := ba c
  obtain ⟨h3, c⟩ := ba c
  obtain ⟨h4, h5⟩ := ba c
  refine ⟨⟨ga K x, ma K (ga K x) "__init__", fd, gloB_ok X G h1, ⟨h2, eqO_ok h3⟩, ?_, h5, F, b⟩, nm⟩
  split at h4
  · rename_i f e
    rw [e, of_decide_eq_true h4]
  · cases h4
/-- a def that lets nothing out, seen as one that cannot raise -/
theorem toCX0 {P : Program} {w : World} {K : PySem.W.Frag} {mg : Str → Option Value} {base : Heap} {k : Nat} {f : Addr} {fd : FuncData} {ps : List Str} {sp : Sp} (F : FnOk P w K mg base (L2.CX P w) k f fd ps sp) (h : ∀ vs H Q E, sp vs H Q E → sp vs H Q E0) : FnOk P w K mg base CX0 k f fd ps sp := by
  refine ⟨F.len, fun A outer s H args us vs Q E hr e0 hb hv hs => codeAny_mono (F.run A outer s H args us vs Q E0 hr e0 hb hv (h _ _ _ _ hs)) fun r s' hq => ?_⟩
  cases r with
  | error e =>
    obtain ⟨_, _, _, _, _, _, _, _, _, _, _, _, z⟩ := hq
    exact z.elim
  | ok fl => cases fl <;> exact hq
end X3
namespace X3
open PySem PySem.Spec PyProof.Rows L2 ClX
def top (i : Nat) : Stmt := PySem.Challenge.pw_boughlaws_k76_refusals_apart.main.body.getD i (.Pass ⟨0, 0, 0, 0⟩)
abbrev FnP (K : PySem.W.Frag) (x : Str) (st : Stmt) (f : Addr) (fd : FuncData) : Prop := FunD K x x (defArgs st) (defBody st) (defScope st) [] [] f fd
/-- _law_same says True of one and the same data -/
def spSame (K : PySem.W.Frag) (n : Nat) : Sp := fun vs H Q _ => ∃ (v u : V) (x : D), vs = [v, u] ∧ Rep K H v x ∧ Rep K H u x ∧ x.depth < n ∧ ∀ H', Same H H' → Q (.bl true) H'
/-- the built-ins that it asks -/
structure BltS (mg : Str → Option Value) : Prop where
  isi : mg "isinstance" = none
  bool : mg "bool" = none
  int : mg "int" = none
  str : mg "str" = none
  list : mg "list" = none
  tuple : mg "tuple" = none
  len : mg "len" = none
  all : mg "all" = none
  range : mg "range" = none
section
variable {P : Program} {w : World} {K : PySem.W.Frag} {mg : Str → Option Value} {base : Heap} {f : Addr} {fd : FuncData}
abbrev Nsame : List Str := ["_law_found", "_law_due", "_law_k"]
theorem scSame : FnScope Nsame ["_law_found", "_law_due"] (defScope (top 39)) := ⟨rfl, rfl, rfl, by decide +kernel, rfl, by decide +kernel, by decide +kernel⟩
theorem ok_same (F : FnP K "_law_same" (top 39) f fd) (B : BltS mg) (hm : mg "_law_same" = some (.ref f)) : ∀ n : Nat, GFn P w K mg base (L2.CX P w) "_law_same" ["_law_found", "_law_due"] [] (n + 1) (spSame K n) := by
  intro n
  induction n with
  | zero =>
    refine GFn.mk' F hm ?_ (fun _ _ _ _ _ _ us hl => match us, hl with | [_, _], _ => rfl)
    refine F.ok scSame (fun vs H Q E h => ?_) (fun cdv A outer s H vs Q E hr h => ?_)
    · obtain ⟨v, u, x, rfl, _, _, hd, _⟩ := h
      omega
    · obtain ⟨v, u, x, rfl, _, _, hd, _⟩ := h
      omega
  | succ n ih =>
    refine GFn.mk' F hm ?_ (fun _ _ _ _ _ _ us hl => match us, hl with | [_, _], _ => rfl)
    refine F.ok scSame (fun vs H Q E h => ?_) (fun cdv A outer s H vs Q E hr h => ?_)
    · obtain ⟨v, u, x, rfl, _⟩ := h
      rfl
    · obtain ⟨v, u, x, rfl, rx, ry, hd, k⟩ := h
      refine ⟨_, PSs.nox (pss_cons (ps_if (pt_cmpR op_isN (pv 1) pe_non (nomark _)) (pss_one (ps_ret (pe_cmpR op_isN (pv 0) pe_non (nomark _)))) pss_nil)
        (pss_cons (ps_if (PW.pt (pw_or (pt_val (pe_callB call_isi (by rfl) B.isi bt_isi (pa_cons (pv 1) (pa_cons (pe_bltn (v := .ty "bool") (by rfl) B.bool bt_bool rfl) pa_nil))))
            (pw_or1 (pt_val (pe_callB call_isi (by rfl) B.isi bt_isi (pa_cons (pv 0) (pa_cons (pe_bltn (v := .ty "bool") (by rfl) B.bool bt_bool rfl) pa_nil)))))))
          (pss_one (ps_ret (pe_and (pe_callB call_isi (by rfl) B.isi bt_isi (pa_cons (pv 1) (pa_cons (pe_bltn (v := .ty "bool") (by rfl) B.bool bt_bool rfl) pa_nil)))
            (pe_and (pe_callB call_isi (by rfl) B.isi bt_isi (pa_cons (pv 0) (pa_cons (pe_bltn (v := .ty "bool") (by rfl) B.bool bt_bool rfl) pa_nil)))
              (pe_one (pe_cmpR op_eq (pv 0) (pv 1) (nomark _))))))) pss_nil)
        (pss_cons (ps_if (pt_val (pe_callB call_isiT (by rfl) B.isi bt_isi (pa_cons (pv 1) (pa_cons (pe_tup (pa_cons (pe_bltn (v := .ty "int") (by rfl) B.int bt_int rfl) (pa_cons (pe_bltn (v := .ty "str") (by rfl) B.str bt_str rfl) pa_nil))) pa_nil))))
          (pss_one (ps_ret (pe_and (pe_callB call_isiT (by rfl) B.isi bt_isi (pa_cons (pv 0) (pa_cons (pe_tup (pa_cons (pe_bltn (v := .ty "int") (by rfl) B.int bt_int rfl) (pa_cons (pe_bltn (v := .ty "str") (by rfl) B.str bt_str rfl) pa_nil))) pa_nil)))
            (pe_and (pe_cmpR op_eq (pe_callB call_isi (by rfl) B.isi bt_isi (pa_cons (pv 0) (pa_cons (pe_bltn (v := .ty "int") (by rfl) B.int bt_int rfl) pa_nil))) (pe_callB call_isi (by rfl) B.isi bt_isi (pa_cons (pv 1) (pa_cons (pe_bltn (v := .ty "int") (by rfl) B.int bt_int rfl) pa_nil))) (nomark _))
              (pe_one (pe_cmpR op_eq (pv 0) (pv 1) (nomark _))))))) pss_nil)
        (pss_cons (ps_if (PW.pt (pw_or (pt_cmpR op_ne (pe_callB call_isi (by rfl) B.isi bt_isi (pa_cons (pv 1) (pa_cons (pe_bltn (v := .ty "list") (by rfl) B.list bt_list rfl) pa_nil))) (pe_callB call_isi (by rfl) B.isi bt_isi (pa_cons (pv 0) (pa_cons (pe_bltn (v := .ty "list") (by rfl) B.list bt_list rfl) pa_nil))) (nomark _))
            (pw_or1 (pt_cmpR op_ne (pe_callB call_isi (by rfl) B.isi bt_isi (pa_cons (pv 1) (pa_cons (pe_bltn (v := .ty "tuple") (by rfl) B.tuple bt_tuple rfl) pa_nil))) (pe_callB call_isi (by rfl) B.isi bt_isi (pa_cons (pv 0) (pa_cons (pe_bltn (v := .ty "tuple") (by rfl) B.tuple bt_tuple rfl) pa_nil))) (nomark _)))))
          (pss_one (ps_ret pe_bl)) pss_nil)
        (pss_one (ps_ret (pe_and (pe_cmpR op_eq (pe_callB call_len_seq (by rfl) B.len boot_len (pa_cons (pv 0) pa_nil)) (pe_callB call_len_seq (by rfl) B.len boot_len (pa_cons (pv 1) pa_nil)) (nomark _))
          (pe_one (pe_callB (cr_all rfl) (by rfl) B.all bt_all (pa_cons (pe_lc (own := [("_law_k", 2)]) (g := gName 2) (tt := tYes) rfl scSame.nd (pi_range1 rfl B.range (pa_cons (pe_callB call_len_seq (by rfl) B.len boot_len (pa_cons (pv 1) pa_nil)) pa_nil)) (blkOk_by (N := Nsame) (sc := defScope (top 39)) (by decide +kernel))
            (fun _ _ _ _ _ => pg_name (i := 2) scSame.nd rfl (Or.inl rfl)) (fun _ _ _ _ _ => pts_nil)
            (fun _ _ _ _ _ => pe_g ih hr (by rfl) (E := E0) passL (pa_cons (pe_ix (r := rIx K) ix_seq (pv 0) (pv 2) (fun _ _ => rfl)) (pa_cons (pe_ix (r := rIx K) ix_seq (pv 1) (pv 2) (fun _ _ => rfl)) pa_nil)))) pa_nil)))))))))), ?_⟩
      refine ⟨_, rfl, rfl, _, rfl, ?_⟩
      refine ite2 (fun hn => ?_) (fun hn => ?_)
      · have hn := of_decide_eq_true hn
        subst hn
        cases ry with
        | non => cases rx with
          | non => exact ⟨_, rfl, rfl, k H (Same.refl H)⟩
      have hn : u ≠ V.non := fun e => hn (decide_eq_true e)
      have hs : ∀ z : V, scal z z = true → decide (z = z) = true := fun z _ => decide_eq_true rfl
      cases ry with
      | non => exact absurd rfl hn
      | bl b => cases rx with
        | bl b =>
          refine ⟨_, rfl, _, _, _, _, _, rfl, .ty _, .base (.bl b), kit_isB K (.bl b), _, rfl, ?_⟩
          refine ⟨_, rfl, _, _, _, _, _, rfl, .ty _, .base (.bl b), kit_isB K (.bl b), _, rfl, ?_⟩
          refine ⟨_, rfl, _, _, _, _, _, rfl, .ty _, .base (.bl b), kit_isB K (.bl b), _, rfl, ?_⟩
          refine ⟨_, rfl, _, rfl, rfl, ?_⟩
          rw [decide_eq_true (rfl : V.bl b = V.bl b)]
          exact k H (Same.refl H)
      | int i => cases rx with
        | int i =>
          refine ⟨_, rfl, _, _, _, _, _, rfl, .ty _, .base (.int i), kit_isB K (.int i), _, rfl, ?_⟩
          refine ⟨_, rfl, _, _, _, _, _, rfl, .ty _, .base (.int i), kit_isB K (.int i), _, rfl, ?_⟩
          refine ⟨_, rfl, (by show 2 ≤ sizeLine; decide), fun p hp => ?_⟩
          refine ⟨_, p, _, _, _, _, rfl, upd_same, .cons (.ty "int") (.cons (.ty "str") .nil), .base (.int i), kit_IS K (.int i), _, rfl, ?_⟩
          refine ⟨_, rfl, (by show 2 ≤ sizeLine; decide), fun p2 hp2 => ?_⟩
          refine ⟨_, p2, _, _, _, _, rfl, upd_same, .cons (.ty "int") (.cons (.ty "str") .nil), .base (.int i), kit_IS K (.int i), _, rfl, ?_⟩
          refine ⟨_, rfl, _, _, _, _, _, rfl, .ty _, .base (.int i), kit_isI K (.int i), ?_⟩
          refine ⟨_, rfl, _, _, _, _, _, rfl, .ty _, .base (.int i), kit_isI K (.int i), ?_⟩
          refine ⟨rfl, _, rfl, ?_⟩
          refine ⟨_, rfl, _, rfl, rfl, ?_⟩
          rw [decide_eq_true (rfl : V.int i = V.int i)]
          exact k _ ((upd_keep hp).trans (upd_keep hp2))
      | str i => cases rx with
        | str i =>
          refine ⟨_, rfl, _, _, _, _, _, rfl, .ty _, .base (.str i), kit_isB K (.str i), _, rfl, ?_⟩
          refine ⟨_, rfl, _, _, _, _, _, rfl, .ty _, .base (.str i), kit_isB K (.str i), _, rfl, ?_⟩
          refine ⟨_, rfl, (by show 2 ≤ sizeLine; decide), fun p hp => ?_⟩
          refine ⟨_, p, _, _, _, _, rfl, upd_same, .cons (.ty "int") (.cons (.ty "str") .nil), .base (.str i), kit_IS K (.str i), _, rfl, ?_⟩
          refine ⟨_, rfl, (by show 2 ≤ sizeLine; decide), fun p2 hp2 => ?_⟩
          refine ⟨_, p2, _, _, _, _, rfl, upd_same, .cons (.ty "int") (.cons (.ty "str") .nil), .base (.str i), kit_IS K (.str i), _, rfl, ?_⟩
          refine ⟨_, rfl, _, _, _, _, _, rfl, .ty _, .base (.str i), kit_isI K (.str i), ?_⟩
          refine ⟨_, rfl, _, _, _, _, _, rfl, .ty _, .base (.str i), kit_isI K (.str i), ?_⟩
          refine ⟨rfl, _, rfl, ?_⟩
          refine ⟨_, rfl, _, rfl, rfl, ?_⟩
          rw [decide_eq_true (rfl : V.str i = V.str i)]
          exact k _ ((upd_keep hp).trans (upd_keep hp2))
      | @lst a vs xs ha hr hl => cases rx with
        | @lst b ws _ hb hs hl2 =>
          have ta := tyx_L ha
          have tb := tyx_L hb
          refine ⟨_, rfl, _, _, _, _, _, rfl, .ty _, ta, kit_isB K (.lst xs), _, rfl, ?_⟩
          refine ⟨_, rfl, _, _, _, _, _, rfl, .ty _, tb, kit_isB K (.lst xs), _, rfl, ?_⟩
          refine ⟨_, rfl, (by show 2 ≤ sizeLine; decide), fun p hp => ?_⟩
          have k1 := upd_keep (o := .tup [.ty "int", .ty "str"]) hp
          have ha1 : SqL K _ a vs := k1.seq ha
          have hb1 : SqL K _ b ws := k1.seq hb
          refine ⟨_, p, _, _, _, _, rfl, upd_same, .cons (.ty "int") (.cons (.ty "str") .nil), (tyx_L ha1), kit_IS K (.lst xs), _, rfl, ?_⟩
          refine ⟨_, rfl, _, _, _, _, _, rfl, .ty _, (tyx_L ha1), kit_isL K (.lst xs), ?_⟩
          refine ⟨_, rfl, _, _, _, _, _, rfl, .ty _, (tyx_L hb1), kit_isL K (.lst xs), ?_⟩
          refine ⟨rfl, _, rfl, ?_⟩
          refine ⟨_, rfl, _, _, _, _, _, rfl, .ty _, (tyx_L ha1), kit_isT K (.lst xs), ?_⟩
          refine ⟨_, rfl, _, _, _, _, _, rfl, .ty _, (tyx_L hb1), kit_isT K (.lst xs), ?_⟩
          refine ⟨rfl, _, rfl, ?_⟩
          refine ⟨_, rfl, _, _, rfl, .inl hb1, _, rfl, _, _, rfl, .inl ha1, rfl, _, rfl, ?_⟩
          rw [hs.length, hr.length]
          rw [decide_eq_true (rfl : V.int (xs.length : Nat) = V.int (xs.length : Nat))]
          have hz : (sizeLine : Nat) ≤ 2 ^ 61 := by decide
          refine ⟨_, rfl, _, _, rfl, .inl ha1, (xs.length : Nat), by rw [hr.length], by omega, by omega, ?_⟩
          rw [Int.toNat_natCast]
          intro D0 hD0
          have k2 := k1.trans (upd_keep (o := .lst []) hD0)
          refine lc_range (fun i H' => H' D0 = some (.lst (List.replicate i (.bl true))) ∧ Same H H') ⟨upd_same, k2⟩ ?_ ?_
          · rintro i H' hi ⟨e1, e2⟩
            obtain ⟨v1, g1, r1⟩ := RepL.get hr (List.getElem?_eq_getElem hi)
            obtain ⟨v2, g2, r2⟩ := RepL.get hs (List.getElem?_eq_getElem hi)
            have dp : (xs[i]).depth < n := by
              have := D.depth_mem (List.getElem_mem hi)
              rw [D.depth] at hd
              omega
            refine ⟨rfl, _, rfl, _, rfl, ?_⟩
            refine ix_of (.inl (e2.seq hb)) (i := 0 + ((i : Nat) : Int)) (by rw [Int.zero_add]; exact atI_nat g2) ?_
            refine ⟨_, rfl, _, rfl, ?_⟩
            refine ix_of (.inl (e2.seq ha)) (i := 0 + ((i : Nat) : Int)) (by rw [Int.zero_add]; exact atI_nat g1) ?_
            refine ⟨v2, v1, _, rfl, r2.keep e2, r1.keep e2, dp, fun H4 e4 => ?_⟩
            refine ⟨_, e4 _ _ e1, (by rw [List.length_replicate]; omega), ?_, ?_⟩
            · rw [upd_same, List.replicate_succ', ]
            · intro q o hq
              rw [upd_ne (ne_of_none (k1 q o hq) hD0)]
              exact e4 _ _ (e2 _ _ hq)
          · rintro H' ⟨e1, e2⟩
            refine ⟨_, List.replicate xs.length true, rfl, SqL.of (by rw [List.map_replicate]; exact e1), ?_⟩
            have e : (List.replicate xs.length true).all id = true := by simp
            rw [e]
            exact k _ e2
      | @tup a vs xs ha hr hl => cases rx with
        | @tup b ws _ hb hs hl2 =>
          have ta := tyx_T ha
          have tb := tyx_T hb
          refine ⟨_, rfl, _, _, _, _, _, rfl, .ty _, ta, kit_isB K (.tup xs), _, rfl, ?_⟩
          refine ⟨_, rfl, _, _, _, _, _, rfl, .ty _, tb, kit_isB K (.tup xs), _, rfl, ?_⟩
          refine ⟨_, rfl, (by show 2 ≤ sizeLine; decide), fun p hp => ?_⟩
          have k1 := upd_keep (o := .tup [.ty "int", .ty "str"]) hp
          have ha1 : SqT K _ a vs := seqT_same k1 ha
          have hb1 : SqT K _ b ws := seqT_same k1 hb
          refine ⟨_, p, _, _, _, _, rfl, upd_same, .cons (.ty "int") (.cons (.ty "str") .nil), (tyx_T ha1), kit_IS K (.tup xs), _, rfl, ?_⟩
          refine ⟨_, rfl, _, _, _, _, _, rfl, .ty _, (tyx_T ha1), kit_isL K (.tup xs), ?_⟩
          refine ⟨_, rfl, _, _, _, _, _, rfl, .ty _, (tyx_T hb1), kit_isL K (.tup xs), ?_⟩
          refine ⟨rfl, _, rfl, ?_⟩
          refine ⟨_, rfl, _, _, _, _, _, rfl, .ty _, (tyx_T ha1), kit_isT K (.tup xs), ?_⟩
          refine ⟨_, rfl, _, _, _, _, _, rfl, .ty _, (tyx_T hb1), kit_isT K (.tup xs), ?_⟩
          refine ⟨rfl, _, rfl, ?_⟩
          refine ⟨_, rfl, _, _, rfl, .inr hb1, _, rfl, _, _, rfl, .inr ha1, rfl, _, rfl, ?_⟩
          rw [hs.length, hr.length]
          rw [decide_eq_true (rfl : V.int (xs.length : Nat) = V.int (xs.length : Nat))]
          have hz : (sizeLine : Nat) ≤ 2 ^ 61 := by decide
          refine ⟨_, rfl, _, _, rfl, .inr ha1, (xs.length : Nat), by rw [hr.length], by omega, by omega, ?_⟩
          rw [Int.toNat_natCast]
          intro D0 hD0
          have k2 := k1.trans (upd_keep (o := .lst []) hD0)
          refine lc_range (fun i H' => H' D0 = some (.lst (List.replicate i (.bl true))) ∧ Same H H') ⟨upd_same, k2⟩ ?_ ?_
          · rintro i H' hi ⟨e1, e2⟩
            obtain ⟨v1, g1, r1⟩ := RepL.get hr (List.getElem?_eq_getElem hi)
            obtain ⟨v2, g2, r2⟩ := RepL.get hs (List.getElem?_eq_getElem hi)
            have dp : (xs[i]).depth < n := by
              have := D.depth_mem (List.getElem_mem hi)
              rw [D.depth] at hd
              omega
            refine ⟨rfl, _, rfl, _, rfl, ?_⟩
            refine ix_of (.inr (seqT_same e2 hb)) (i := 0 + ((i : Nat) : Int)) (by rw [Int.zero_add]; exact atI_nat g2) ?_
            refine ⟨_, rfl, _, rfl, ?_⟩
            refine ix_of (.inr (seqT_same e2 ha)) (i := 0 + ((i : Nat) : Int)) (by rw [Int.zero_add]; exact atI_nat g1) ?_
            refine ⟨v2, v1, _, rfl, r2.keep e2, r1.keep e2, dp, fun H4 e4 => ?_⟩
            refine ⟨_, e4 _ _ e1, (by rw [List.length_replicate]; omega), ?_, ?_⟩
            · rw [upd_same, List.replicate_succ', ]
            · intro q o hq
              rw [upd_ne (ne_of_none (k1 q o hq) hD0)]
              exact e4 _ _ (e2 _ _ hq)
          · rintro H' ⟨e1, e2⟩
            refine ⟨_, List.replicate xs.length true, rfl, SqL.of (by rw [List.map_replicate]; exact e1), ?_⟩
            have e : (List.replicate xs.length true).all id = true := by simp
            rw [e]
            exact k _ e2
end
end X3
namespace X3
open PySem PySem.Spec PyProof.Rows L2 ClX
/-- the drawing state at p -/
def Dr (K : PySem.W.Frag) (H : Hp) (p : Addr) : Prop := ∃ (c : Addr) (cells : List Int) (at_ lft seed : Int), H p = some (.lst [.ref c, .int at_, .int lft, .int seed]) ∧ SqL K H c (cells.map V.int) ∧ c ≠ p ∧ 0 ≤ at_ ∧ 0 ≤ lft ∧ 0 ≤ seed ∧ seed < 2147483647
def spPull (K : PySem.W.Frag) : Sp := fun vs H Q _ => ∃ (p : Addr) (many : Int), vs = [.ref p, .int many] ∧ 1 ≤ many ∧ many ≤ 1000000000 ∧ Dr K H p ∧ ∀ (r : Int) (H' : Hp), 0 ≤ r → r < many → Dr K H' p → (∀ b, b ≠ p → H' b = H b) → Q (.int r) H'
section
variable {P : Program} {w : World} {K : PySem.W.Frag} {mg : Str → Option Value} {base : Heap} {f : Addr} {fd : FuncData}
abbrev Npull : List Str := ["_law_dr", "_law_many", "_law_cell", "_law_got", "_law_once"]
theorem scPull : FnScope Npull ["_law_dr", "_law_many"] (defScope (top 38)) := ⟨rfl, rfl, rfl, by decide +kernel, rfl, by decide +kernel, by decide +kernel⟩
theorem ok_pull (F : FnP K "_law_pull" (top 38) f fd) (gl : mg "len" = none) : FnOk P w K mg base (L2.CX P w) 1 f fd ["_law_dr", "_law_many"] (spPull K) := by
  refine F.ok scPull (fun vs H Q E h => ?_) (fun cdv A outer s H vs Q E hr h => ?_)
  · obtain ⟨p, many, rfl, _⟩ := h
    rfl
  · obtain ⟨p, many, rfl, hm1, hm2, ⟨c, cells, at_, lft, seed, hp, hc, hcp, ha, hlf, hs0, hs1⟩, k⟩ := h
    refine ⟨_, PSs.nox (pss_cons (ps_if (PW.pt (pw_and (pt_cmpR op_lt (pe_ix ix_list (pv 0) pe_int (fun _ _ => rfl)) (pv 1) (nomark _)) (pw_and1 (pt_cmpR op_lt (pe_ix ix_list (pv 0) pe_int (fun _ _ => rfl)) (pe_callB call_len_seq (by rfl) gl boot_len (pa_cons (pe_ix ix_list (pv 0) pe_int (fun _ _ => rfl)) pa_nil)) (nomark _)))))
      (pss_cons (ps_set (i := 2) scPull.nd rfl (Or.inl rfl) (pe_ix ix_list (pe_ix ix_list (pv 0) pe_int (fun _ _ => rfl)) (pe_ix ix_list (pv 0) pe_int (fun _ _ => rfl)) (fun _ _ => rfl)))
        (pss_cons (ps_asg (pe_op op_add (pe_ix ix_list (pv 0) pe_int (fun _ _ => rfl)) pe_int) (pg_sub (pv 0) pe_int set_list))
        (pss_cons (ps_asg pe_int (pg_sub (pv 0) pe_int set_list))
        (pss_cons (ps_if (pt_cmpR op_lt (pv 2) pe_int (nomark _)) (pss_one (ps_set (i := 2) scPull.nd rfl (Or.inl rfl) (pe_op op_sub pe_int (pe_op op_mul pe_int (pv 2))))) pss_nil)
        (pss_cons (ps_if (pt_cmpR op_ge (pv 2) (pe_op op_pow pe_int pe_int) (nomark _)) (pss_one (ps_asg (pv 2) (pg_sub (pv 0) pe_int set_list))) pss_nil)
        (pss_one (ps_asg (pe_op op_mod (pe_op op_add (pe_op op_add (pe_op op_mul (pe_ix ix_list (pv 0) pe_int (fun _ _ => rfl)) pe_int) (pe_op op_mul (pv 2) pe_int)) (pe_op op_mul (pe_ix ix_list (pv 0) pe_int (fun _ _ => rfl)) pe_int)) pe_int) (pg_sub (pv 0) pe_int set_list))))))))
      pss_nil)
      (pss_cons (ps_if (pt_cmpR op_ge (pe_ix ix_list (pv 0) pe_int (fun _ _ => rfl)) (pv 1) (nomark _))
        (pss_cons (ps_set (i := 3) scPull.nd rfl (Or.inl rfl) (pe_op op_mod (pe_ix ix_list (pv 0) pe_int (fun _ _ => rfl)) (pv 1)))
        (pss_cons (ps_asg (pe_op op_fdiv (pe_ix ix_list (pv 0) pe_int (fun _ _ => rfl)) (pv 1)) (pg_sub (pv 0) pe_int set_list))
        (pss_one (ps_ret (pv 3))))) pss_nil)
      (pss_cons (ps_set (i := 4) scPull.nd rfl (Or.inl rfl) (pe_op op_mul (pe_op op_mod (pe_op op_mul (pe_ix ix_list (pv 0) pe_int (fun _ _ => rfl)) (pe_ix ix_list (pv 0) pe_int (fun _ _ => rfl))) pe_int) pe_int))
      (pss_cons (ps_asg (pe_op op_mod (pe_op op_add (pe_op op_add (pv 4) (pe_op op_mul (pe_ix ix_list (pv 0) pe_int (fun _ _ => rfl)) pe_int)) pe_int) pe_int) (pg_sub (pv 0) pe_int set_list))
      (pss_one (ps_ret (pe_op op_mod (pe_op op_fdiv (pe_ix ix_list (pv 0) pe_int (fun _ _ => rfl)) pe_int) (pv 1)))))))), ?_⟩
    have dr : ∀ (H' : Hp) (a l d : Int), H' p = some (.lst [.ref c, .int a, .int l, .int d]) → (∀ b, b ≠ p → H' b = H b) → 0 ≤ a → 0 ≤ l → 0 ≤ d → d < 2147483647 → Dr K H' p := fun H' a l d e1 e2 h1 h2 h3 h4 => ⟨c, cells, a, l, d, e1, seq_at hc (e2 c hcp), hcp, h1, h2, h3, h4⟩
    refine seq_by (fun σ' H' => ∃ (v2 : Option V) (a l d : Int), σ' = [some (.ref p), some (.int many), v2, none, none] ∧ H' p = some (.lst [.ref c, .int a, .int l, .int d]) ∧ (∀ b, b ≠ p → H' b = H b) ∧ 0 ≤ a ∧ 0 ≤ l ∧ 0 ≤ d ∧ d < 2147483647) ?_ (fun rest => ?_)
    · rintro σ' H' ⟨v2, a, l, d, rfl, e1, e2, h1, h2, h3, h4⟩
      refine ⟨_, rfl, _, _, _, _, rfl, rfl, SqL.of e1, rfl, _, rfl, _, _, rfl, rfl, _, rfl, ?_⟩
      refine ite2 (fun hh => ?_) (fun hh => ?_)
      · have hh := of_decide_eq_true hh
        refine ⟨_, rfl, _, _, _, _, rfl, rfl, SqL.of e1, rfl, _, rfl, _, _, rfl, rfl, (by show (0 : Int) < many; omega), ?_⟩
        refine ⟨_, rfl, _, _, _, _, rfl, rfl, SqL.of e1, rfl, _, rfl, _, _, rfl, rfl, ⟨by omega, by omega⟩, _, rfl, _, _, _, _, rfl, rfl, e1, rfl, ?_⟩
        refine ⟨_, rfl, ?_⟩
        exact k _ _ (Int.emod_nonneg _ (by omega)) (Int.emod_lt_of_pos _ (by omega)) (dr _ a (l / many) d upd_same (fun b hb => by rw [upd_ne hb, e2 b hb]) h1 (Int.ediv_nonneg h2 (by omega)) h3 h4) (fun b hb => by rw [upd_ne hb, e2 b hb])
      · refine ⟨_, rfl, _, _, _, _, rfl, rfl, SqL.of e1, rfl, _, rfl, _, _, _, _, rfl, rfl, SqL.of e1, rfl, _, _, rfl, rfl, .inl ⟨by omega, by omega⟩, _, _, rfl, rfl, (by show (0 : Int) < 2147483629; decide), _, _, rfl, rfl, .inr ⟨by decide, by decide⟩, ?_⟩
        refine ⟨_, rfl, _, rfl, _, _, _, _, rfl, rfl, SqL.of e1, rfl, _, _, rfl, rfl, .inr ⟨by decide, by decide⟩, _, _, rfl, rfl, _, _, rfl, rfl, _, _, rfl, rfl, (by show (0 : Int) < 2147483647; decide), _, rfl, _, _, _, _, rfl, rfl, e1, rfl, ?_⟩
        refine ⟨_, rfl, _, _, _, _, rfl, rfl, SqL.of upd_same, rfl, _, _, rfl, rfl, ⟨by decide, by decide⟩, _, rfl, _, _, rfl, rfl, (by show (0 : Int) < many; omega), ?_⟩
        refine k _ _ (Int.emod_nonneg _ (by omega)) (Int.emod_lt_of_pos _ (by omega)) (dr _ a l _ upd_same (fun b hb => by rw [upd_ne hb, e2 b hb]) h1 h2 (Int.emod_nonneg _ (by decide)) (Int.emod_lt_of_pos _ (by decide))) (fun b hb => by rw [upd_ne hb, e2 b hb])
    · refine ⟨_, rfl, _, _, _, _, rfl, rfl, SqL.of hp, rfl, _, rfl, _, _, rfl, rfl, _, rfl, ?_⟩
      refine ite2 (fun _ => ?_) (fun _ => ?_)
      · refine ⟨_, rfl, _, _, _, _, rfl, rfl, SqL.of hp, rfl, _, rfl, _, _, _, _, rfl, rfl, SqL.of hp, rfl, _, _, rfl, .inl hc, _, _, rfl, rfl, _, rfl, ?_⟩
        refine ite2 (fun hh => ?_) (fun _ => ?_)
        · have hh := of_decide_eq_true hh
          have hh : at_ < (((cells.map V.int).length : Nat) : Int) := hh
          rw [List.length_map] at hh
          obtain ⟨n, rfl⟩ : ∃ n : Nat, at_ = (n : Int) := ⟨at_.toNat, by omega⟩
          have hn : n < cells.length := by omega
          have hx : atI (cells.map V.int) (n : Int) = some (V.int cells[n]) := atI_nat (by rw [List.getElem?_map, List.getElem?_eq_getElem hn]; rfl)
          have hu : ∀ {o : HO}, SqL K (upd H p o) c (cells.map V.int) := fun {o} => seq_at hc (upd_ne hcp)
          refine ⟨_, rfl, _, _, _, _, rfl, rfl, SqL.of hp, rfl, _, rfl, _, _, _, _, rfl, rfl, SqL.of hp, rfl, _, _, _, _, rfl, rfl, hc, hx, ?_⟩
          refine ⟨_, rfl, _, _, _, _, rfl, rfl, SqL.of hp, rfl, _, _, rfl, rfl, _, rfl, _, _, _, _, rfl, rfl, hp, rfl, ?_⟩
          refine ⟨_, rfl, _, _, _, _, rfl, rfl, upd_same, rfl, ?_⟩
          rw [upd_upd]
          -- the cell's sign
          dsimp only
          refine seq_by (fun σ' H' => ∃ z : Int, σ' = [some (.ref p), some (.int many), some (.int z), none, none] ∧ 0 ≤ z ∧ H' = upd H p (.lst [.ref c, .int (n + 1), .int 0, .int seed])) ?_ (fun rest2 => ?_)
          · rintro σ' H' ⟨z, rfl, hz, rfl⟩
            refine seq_by (fun σ' H' => ∃ l : Int, σ' = [some (.ref p), some (.int many), some (.int z), none, none] ∧ 0 ≤ l ∧ H' = upd H p (.lst [.ref c, .int (n + 1), .int l, .int seed])) ?_ (fun rest3 => ?_)
            · rintro σ' H' ⟨l, rfl, hl, rfl⟩
              refine ⟨_, rfl, _, _, _, _, rfl, rfl, SqL.of upd_same, rfl, _, _, rfl, rfl, .inr ⟨by decide, by decide⟩, _, rfl, _, _, rfl, rfl, .inr ⟨by decide, by decide⟩, _, _, rfl, rfl, _, rfl, _, _, _, _, rfl, rfl, SqL.of upd_same, rfl, _, _, rfl, rfl, .inr ⟨by decide, by decide⟩,
                _, _, rfl, rfl, _, _, rfl, rfl, (by show (0 : Int) < 2147483647; decide), _, rfl, _, _, _, _, rfl, rfl, upd_same, rfl, ?_⟩
              rw [upd_upd]
              exact rest _ _ ⟨_, _, _, _, rfl, upd_same, fun b hb => upd_ne hb, by omega, hl, Int.emod_nonneg _ (by decide), Int.emod_lt_of_pos _ (by decide)⟩
            · refine ⟨_, rfl, _, _, rfl, rfl, (by show (0 : Int) ≤ 18 ∧ (18 : Int) ≤ 1000000 ∧ (10 : Int).natAbs < 2 ^ 64; decide), _, _, rfl, rfl, _, rfl, ?_⟩
              refine ite2 (fun hh => ?_) (fun hh => ?_)
              · refine ⟨_, rfl, _, rfl, _, _, _, _, rfl, rfl, upd_same, rfl, ?_⟩
                rw [upd_upd]
                exact rest3 _ _ ⟨z, rfl, hz, rfl⟩
              · exact rest3 _ _ ⟨0, rfl, Int.le_refl _, rfl⟩
          · refine ⟨_, rfl, _, _, rfl, rfl, _, rfl, ?_⟩
            refine ite2 (fun hh => ?_) (fun hh => ?_)
            · have hh := of_decide_eq_true hh
              refine ⟨_, rfl, _, _, rfl, rfl, .inl ⟨by decide, by decide⟩, _, _, rfl, rfl, ?_⟩
              exact rest2 _ _ ⟨_, rfl, by omega, rfl⟩
            · have hh : ¬ cells[n] < 0 := fun z => hh (decide_eq_true z)
              exact rest2 _ _ ⟨_, rfl, by omega, rfl⟩
        · exact rest _ _ ⟨_, _, _, _, rfl, hp, fun _ _ => rfl, ha, hlf, hs0, hs1⟩
      · exact rest _ _ ⟨_, _, _, _, rfl, hp, fun _ _ => rfl, ha, hlf, hs0, hs1⟩
end
end X3
namespace X3
open PySem PySem.Spec PyProof.Rows L2 ClX
structure Xs (P : Program) (w : World) (K : PySem.W.Frag) (mg : Str → Option Value) (base : Heap) (C : Nat → Addr) : Prop where
  x0 : XCls P w K mg base "ValueError.__new__" tlV "BadName" (C 0) "BadName" ["name"]
  x1 : XCls P w K mg base "ValueError.__new__" tlV "BadOperation" (C 1) "BadOperation" ["at"]
  x2 : XCls P w K mg base "ValueError.__new__" tlV "BadTree" (C 2) "BadTree" ["at"]
  x3 : XCls P w K mg base "ValueError.__new__" tlV "BadCount" (C 3) "BadCount" ["at"]
  x4 : XCls P w K mg base "ValueError.__new__" tlV "BadLeaf" (C 4) "BadLeaf" []
  x5 : XCls P w K mg base "ValueError.__new__" tlV "BadPlace" (C 5) "BadPlace" []
  x6 : XCls P w K mg base "ValueError.__new__" tlV "BadMany" (C 6) "BadMany" []
  x7 : XCls P w K mg base "ValueError.__new__" tlV "BadText" (C 7) "BadText" ["at"]
  x8 : XCls P w K mg base "ValueError.__new__" tlV "Uneven" (C 8) "Uneven" ["at"]
  x9 : XCls P w K mg base "ValueError.__new__" tlV "Strange" (C 9) "Strange" ["operation"]
  x10 : XCls P w K mg base "ValueError.__new__" tlV "Idle" (C 10) "Idle" []
  x11 : XCls P w K mg base "ValueError.__new__" tlV "Bare" (C 11) "Bare" []
  x12 : XCls P w K mg base "ValueError.__new__" tlV "Taken" (C 12) "Taken" ["name"]
  x13 : XCls P w K mg base "ValueError.__new__" tlV "InUse" (C 13) "InUse" ["name"]
  x14 : XCls P w K mg base "ValueError.__new__" tlV "Full" (C 14) "Full" []
  x15 : XCls P w K mg base "ValueError.__new__" tlV "Lacking" (C 15) "Lacking" ["operation"]
  x16 : XCls P w K mg base "ValueError.__new__" tlV "Unlike" (C 16) "Unlike" ["operation"]
  x17 : XCls P w K mg base "ValueError.__new__" tlV "Unjoined" (C 17) "Unjoined" []
  x18 : XCls P w K mg base "ValueError.__new__" tlV "NotKept" (C 18) "NotKept" ["name"]
  x19 : XCls P w K mg base "ValueError.__new__" tlV "Breaks" (C 19) "Breaks" ["name"]
  x20 : XCls P w K mg base "ValueError.__new__" tlV "Wide" (C 20) "Wide" []
  x21 : XCls P w K mg base "ValueError.__new__" tlV "NotTwos" (C 21) "NotTwos" []
  x22 : XCls P w K mg base "ValueError.__new__" tlV "BadRow" (C 22) "BadRow" ["at"]
  x23 : XCls P w K mg base "ValueError.__new__" tlV "BadPlaces" (C 23) "BadPlaces" []
  x24 : XCls P w K mg base "ValueError.__new__" tlV "BadDeed" (C 24) "BadDeed" []
  x25 : XCls P w K mg base "ValueError.__new__" tlV "Stopped" (C 25) "Stopped" ["at", "why"]
  x26 : XCls P w K mg base "ValueError.__new__" tlV "BadPage" (C 26) "BadPage" ["at"]
  x27 : XCls P w K mg base "LookupError.__new__" tlL "NoOperation" (C 27) "NoOperation" ["operation"]
  x28 : XCls P w K mg base "LookupError.__new__" tlL "NoRule" (C 28) "NoRule" ["name"]
  x29 : XCls P w K mg base "LookupError.__new__" tlL "NoKind" (C 29) "NoKind" ["name"]
  x30 : XCls P w K mg base "LookupError.__new__" tlL "NoBridge" (C 30) "NoBridge" ["name"]
  x31 : XCls P w K mg base "LookupError.__new__" tlL "NoWatch" (C 31) "NoWatch" ["name"]
  x32 : XCls P w K mg base "LookupError.__new__" tlL "NothingLeft" (C 32) "NothingLeft" []
/-- the fields that the i-th class makes of a (and b) -/
def xfOf (i : Nat) (a b : V) : List (Str × V) := match i with
  | 0 => xflds "BadName" ["name"] [a]
  | 1 => xflds "BadOperation" ["at"] [a]
  | 2 => xflds "BadTree" ["at"] [a]
  | 3 => xflds "BadCount" ["at"] [a]
  | 4 => xflds "BadLeaf" [] []
  | 5 => xflds "BadPlace" [] []
  | 6 => xflds "BadMany" [] []
  | 7 => xflds "BadText" ["at"] [a]
  | 8 => xflds "Uneven" ["at"] [a]
  | 9 => xflds "Strange" ["operation"] [a]
  | 10 => xflds "Idle" [] []
  | 11 => xflds "Bare" [] []
  | 12 => xflds "Taken" ["name"] [a]
  | 13 => xflds "InUse" ["name"] [a]
  | 14 => xflds "Full" [] []
  | 15 => xflds "Lacking" ["operation"] [a]
  | 16 => xflds "Unlike" ["operation"] [a]
  | 17 => xflds "Unjoined" [] []
  | 18 => xflds "NotKept" ["name"] [a]
  | 19 => xflds "Breaks" ["name"] [a]
  | 20 => xflds "Wide" [] []
  | 21 => xflds "NotTwos" [] []
  | 22 => xflds "BadRow" ["at"] [a]
  | 23 => xflds "BadPlaces" [] []
  | 24 => xflds "BadDeed" [] []
  | 25 => xflds "Stopped" ["at", "why"] [a, b]
  | 26 => xflds "BadPage" ["at"] [a]
  | 27 => xflds "NoOperation" ["operation"] [a]
  | 28 => xflds "NoRule" ["name"] [a]
  | 29 => xflds "NoKind" ["name"] [a]
  | 30 => xflds "NoBridge" ["name"] [a]
  | 31 => xflds "NoWatch" ["name"] [a]
  | 32 => xflds "NothingLeft" [] []
  | _ => []
def spRaise (C : Nat → Addr) (lo hi : Nat) : Sp := fun vs H Q E => ∃ (i : Nat) (a b : V), vs = [.int (i : Nat), a, b] ∧ i < 33 ∧ (lo ≤ i → i < hi → ∀ d, H d = none → E (.ref (C i)) (some d) (upd H d (.xd (xfOf i a b)))) ∧ (¬ (lo ≤ i ∧ i < hi) → Q .non H)
section
variable {P : Program} {w : World} {K : PySem.W.Frag} {mg : Str → Option Value} {base : Heap} {f : Addr} {fd : FuncData} {C : Nat → Addr}
abbrev Nra : List Str := ["_law_at", "_law_a", "_law_b"]
theorem sc_early : FnScope Nra Nra (defScope (top 42)) := ⟨rfl, rfl, rfl, by decide +kernel, rfl, by decide +kernel, by decide +kernel⟩
theorem ok_early (F : FnP K "_law_early" (top 42) f fd) (T : Xs P w K mg base C) (hm : mg "_law_early" = some (.ref f)) : GFn P w K mg base (L2.CX P w) "_law_early" Nra [] 4 (spRaise C 0 11) := by
  refine GFn.mk' F hm ?_ (fun _ _ _ _ _ _ us hl => match us, hl with | [_, _, _], _ => rfl)
  refine F.ok sc_early (fun vs H Q E h => ?_) (fun cdv A outer s H vs Q E hr h => ?_)
  · obtain ⟨i, a, b, rfl, _⟩ := h
    rfl
  · obtain ⟨i, a, b, rfl, hi, h1, h2⟩ := h
    refine ⟨_, pss_cons (ps_if (pt_cmpR op_eq (pv 0) pe_int (nomark _)) (pss_one (ps_raise rfl (takes_of rfl rfl rfl rfl) (pmk_x bfV T.x0 hr (by decide) rfl (pa_cons (pv 1) pa_nil)))) pss_nil)
      (pss_cons (ps_if (pt_cmpR op_eq (pv 0) pe_int (nomark _)) (pss_one (ps_raise rfl (takes_of rfl rfl rfl rfl) (pmk_x bfV T.x1 hr (by decide) rfl (pa_cons (pv 1) pa_nil)))) pss_nil)
      (pss_cons (ps_if (pt_cmpR op_eq (pv 0) pe_int (nomark _)) (pss_one (ps_raise rfl (takes_of rfl rfl rfl rfl) (pmk_x bfV T.x2 hr (by decide) rfl (pa_cons (pv 1) pa_nil)))) pss_nil)
      (pss_cons (ps_if (pt_cmpR op_eq (pv 0) pe_int (nomark _)) (pss_one (ps_raise rfl (takes_of rfl rfl rfl rfl) (pmk_x bfV T.x3 hr (by decide) rfl (pa_cons (pv 1) pa_nil)))) pss_nil)
      (pss_cons (ps_if (pt_cmpR op_eq (pv 0) pe_int (nomark _)) (pss_one (ps_raise rfl (takes_of rfl rfl rfl rfl) (pmk_x0 bfV T.x4 hr rfl))) pss_nil)
      (pss_cons (ps_if (pt_cmpR op_eq (pv 0) pe_int (nomark _)) (pss_one (ps_raise rfl (takes_of rfl rfl rfl rfl) (pmk_x0 bfV T.x5 hr rfl))) pss_nil)
      (pss_cons (ps_if (pt_cmpR op_eq (pv 0) pe_int (nomark _)) (pss_one (ps_raise rfl (takes_of rfl rfl rfl rfl) (pmk_x0 bfV T.x6 hr rfl))) pss_nil)
      (pss_cons (ps_if (pt_cmpR op_eq (pv 0) pe_int (nomark _)) (pss_one (ps_raise rfl (takes_of rfl rfl rfl rfl) (pmk_x bfV T.x7 hr (by decide) rfl (pa_cons (pv 1) pa_nil)))) pss_nil)
      (pss_cons (ps_if (pt_cmpR op_eq (pv 0) pe_int (nomark _)) (pss_one (ps_raise rfl (takes_of rfl rfl rfl rfl) (pmk_x bfV T.x8 hr (by decide) rfl (pa_cons (pv 1) pa_nil)))) pss_nil)
      (pss_cons (ps_if (pt_cmpR op_eq (pv 0) pe_int (nomark _)) (pss_one (ps_raise rfl (takes_of rfl rfl rfl rfl) (pmk_x bfV T.x9 hr (by decide) rfl (pa_cons (pv 1) pa_nil)))) pss_nil)
      (pss_one (ps_if (pt_cmpR op_eq (pv 0) pe_int (nomark _)) (pss_one (ps_raise rfl (takes_of rfl rfl rfl rfl) (pmk_x0 bfV T.x10 hr rfl))) pss_nil))))))))))), ?_⟩
    refine ⟨_, rfl, rfl, _, rfl, ite2 (fun e => ?_) (fun e0 => ?_)⟩
    · have e := of_decide_eq_true e
      obtain rfl : i = 0 := by have := V.int.inj e; omega
      exact ⟨_, rfl, rfl, fun d hd => h1 (by decide) (by decide) d hd⟩
    refine ⟨_, rfl, rfl, _, rfl, ite2 (fun e => ?_) (fun e1 => ?_)⟩
    · have e := of_decide_eq_true e
      obtain rfl : i = 1 := by have := V.int.inj e; omega
      exact ⟨_, rfl, rfl, fun d hd => h1 (by decide) (by decide) d hd⟩
    refine ⟨_, rfl, rfl, _, rfl, ite2 (fun e => ?_) (fun e2 => ?_)⟩
    · have e := of_decide_eq_true e
      obtain rfl : i = 2 := by have := V.int.inj e; omega
      exact ⟨_, rfl, rfl, fun d hd => h1 (by decide) (by decide) d hd⟩
    refine ⟨_, rfl, rfl, _, rfl, ite2 (fun e => ?_) (fun e3 => ?_)⟩
    · have e := of_decide_eq_true e
      obtain rfl : i = 3 := by have := V.int.inj e; omega
      exact ⟨_, rfl, rfl, fun d hd => h1 (by decide) (by decide) d hd⟩
    refine ⟨_, rfl, rfl, _, rfl, ite2 (fun e => ?_) (fun e4 => ?_)⟩
    · have e := of_decide_eq_true e
      obtain rfl : i = 4 := by have := V.int.inj e; omega
      exact ⟨rfl, fun d hd => h1 (by decide) (by decide) d hd⟩
    refine ⟨_, rfl, rfl, _, rfl, ite2 (fun e => ?_) (fun e5 => ?_)⟩
    · have e := of_decide_eq_true e
      obtain rfl : i = 5 := by have := V.int.inj e; omega
      exact ⟨rfl, fun d hd => h1 (by decide) (by decide) d hd⟩
    refine ⟨_, rfl, rfl, _, rfl, ite2 (fun e => ?_) (fun e6 => ?_)⟩
    · have e := of_decide_eq_true e
      obtain rfl : i = 6 := by have := V.int.inj e; omega
      exact ⟨rfl, fun d hd => h1 (by decide) (by decide) d hd⟩
    refine ⟨_, rfl, rfl, _, rfl, ite2 (fun e => ?_) (fun e7 => ?_)⟩
    · have e := of_decide_eq_true e
      obtain rfl : i = 7 := by have := V.int.inj e; omega
      exact ⟨_, rfl, rfl, fun d hd => h1 (by decide) (by decide) d hd⟩
    refine ⟨_, rfl, rfl, _, rfl, ite2 (fun e => ?_) (fun e8 => ?_)⟩
    · have e := of_decide_eq_true e
      obtain rfl : i = 8 := by have := V.int.inj e; omega
      exact ⟨_, rfl, rfl, fun d hd => h1 (by decide) (by decide) d hd⟩
    refine ⟨_, rfl, rfl, _, rfl, ite2 (fun e => ?_) (fun e9 => ?_)⟩
    · have e := of_decide_eq_true e
      obtain rfl : i = 9 := by have := V.int.inj e; omega
      exact ⟨_, rfl, rfl, fun d hd => h1 (by decide) (by decide) d hd⟩
    refine ⟨_, rfl, rfl, _, rfl, ite2 (fun e => ?_) (fun e10 => ?_)⟩
    · have e := of_decide_eq_true e
      obtain rfl : i = 10 := by have := V.int.inj e; omega
      exact ⟨rfl, fun d hd => h1 (by decide) (by decide) d hd⟩
    refine h2 ?_
    rintro ⟨hlo, hhi⟩
    by_cases q0 : i = 0
    · subst q0; exact e0 (decide_eq_true rfl)
    by_cases q1 : i = 1
    · subst q1; exact e1 (decide_eq_true rfl)
    by_cases q2 : i = 2
    · subst q2; exact e2 (decide_eq_true rfl)
    by_cases q3 : i = 3
    · subst q3; exact e3 (decide_eq_true rfl)
    by_cases q4 : i = 4
    · subst q4; exact e4 (decide_eq_true rfl)
    by_cases q5 : i = 5
    · subst q5; exact e5 (decide_eq_true rfl)
    by_cases q6 : i = 6
    · subst q6; exact e6 (decide_eq_true rfl)
    by_cases q7 : i = 7
    · subst q7; exact e7 (decide_eq_true rfl)
    by_cases q8 : i = 8
    · subst q8; exact e8 (decide_eq_true rfl)
    by_cases q9 : i = 9
    · subst q9; exact e9 (decide_eq_true rfl)
    by_cases q10 : i = 10
    · subst q10; exact e10 (decide_eq_true rfl)
    omega
theorem sc_middle : FnScope Nra Nra (defScope (top 43)) := ⟨rfl, rfl, rfl, by decide +kernel, rfl, by decide +kernel, by decide +kernel⟩
theorem ok_middle (F : FnP K "_law_middle" (top 43) f fd) (T : Xs P w K mg base C) (hm : mg "_law_middle" = some (.ref f)) : GFn P w K mg base (L2.CX P w) "_law_middle" Nra [] 4 (spRaise C 11 22) := by
  refine GFn.mk' F hm ?_ (fun _ _ _ _ _ _ us hl => match us, hl with | [_, _, _], _ => rfl)
  refine F.ok sc_middle (fun vs H Q E h => ?_) (fun cdv A outer s H vs Q E hr h => ?_)
  · obtain ⟨i, a, b, rfl, _⟩ := h
    rfl
  · obtain ⟨i, a, b, rfl, hi, h1, h2⟩ := h
    refine ⟨_, pss_cons (ps_if (pt_cmpR op_eq (pv 0) pe_int (nomark _)) (pss_one (ps_raise rfl (takes_of rfl rfl rfl rfl) (pmk_x0 bfV T.x11 hr rfl))) pss_nil)
      (pss_cons (ps_if (pt_cmpR op_eq (pv 0) pe_int (nomark _)) (pss_one (ps_raise rfl (takes_of rfl rfl rfl rfl) (pmk_x bfV T.x12 hr (by decide) rfl (pa_cons (pv 1) pa_nil)))) pss_nil)
      (pss_cons (ps_if (pt_cmpR op_eq (pv 0) pe_int (nomark _)) (pss_one (ps_raise rfl (takes_of rfl rfl rfl rfl) (pmk_x bfV T.x13 hr (by decide) rfl (pa_cons (pv 1) pa_nil)))) pss_nil)
      (pss_cons (ps_if (pt_cmpR op_eq (pv 0) pe_int (nomark _)) (pss_one (ps_raise rfl (takes_of rfl rfl rfl rfl) (pmk_x0 bfV T.x14 hr rfl))) pss_nil)
      (pss_cons (ps_if (pt_cmpR op_eq (pv 0) pe_int (nomark _)) (pss_one (ps_raise rfl (takes_of rfl rfl rfl rfl) (pmk_x bfV T.x15 hr (by decide) rfl (pa_cons (pv 1) pa_nil)))) pss_nil)
      (pss_cons (ps_if (pt_cmpR op_eq (pv 0) pe_int (nomark _)) (pss_one (ps_raise rfl (takes_of rfl rfl rfl rfl) (pmk_x bfV T.x16 hr (by decide) rfl (pa_cons (pv 1) pa_nil)))) pss_nil)
      (pss_cons (ps_if (pt_cmpR op_eq (pv 0) pe_int (nomark _)) (pss_one (ps_raise rfl (takes_of rfl rfl rfl rfl) (pmk_x0 bfV T.x17 hr rfl))) pss_nil)
      (pss_cons (ps_if (pt_cmpR op_eq (pv 0) pe_int (nomark _)) (pss_one (ps_raise rfl (takes_of rfl rfl rfl rfl) (pmk_x bfV T.x18 hr (by decide) rfl (pa_cons (pv 1) pa_nil)))) pss_nil)
      (pss_cons (ps_if (pt_cmpR op_eq (pv 0) pe_int (nomark _)) (pss_one (ps_raise rfl (takes_of rfl rfl rfl rfl) (pmk_x bfV T.x19 hr (by decide) rfl (pa_cons (pv 1) pa_nil)))) pss_nil)
      (pss_cons (ps_if (pt_cmpR op_eq (pv 0) pe_int (nomark _)) (pss_one (ps_raise rfl (takes_of rfl rfl rfl rfl) (pmk_x0 bfV T.x20 hr rfl))) pss_nil)
      (pss_one (ps_if (pt_cmpR op_eq (pv 0) pe_int (nomark _)) (pss_one (ps_raise rfl (takes_of rfl rfl rfl rfl) (pmk_x0 bfV T.x21 hr rfl))) pss_nil))))))))))), ?_⟩
    refine ⟨_, rfl, rfl, _, rfl, ite2 (fun e => ?_) (fun e11 => ?_)⟩
    · have e := of_decide_eq_true e
      obtain rfl : i = 11 := by have := V.int.inj e; omega
      exact ⟨rfl, fun d hd => h1 (by decide) (by decide) d hd⟩
    refine ⟨_, rfl, rfl, _, rfl, ite2 (fun e => ?_) (fun e12 => ?_)⟩
    · have e := of_decide_eq_true e
      obtain rfl : i = 12 := by have := V.int.inj e; omega
      exact ⟨_, rfl, rfl, fun d hd => h1 (by decide) (by decide) d hd⟩
    refine ⟨_, rfl, rfl, _, rfl, ite2 (fun e => ?_) (fun e13 => ?_)⟩
    · have e := of_decide_eq_true e
      obtain rfl : i = 13 := by have := V.int.inj e; omega
      exact ⟨_, rfl, rfl, fun d hd => h1 (by decide) (by decide) d hd⟩
    refine ⟨_, rfl, rfl, _, rfl, ite2 (fun e => ?_) (fun e14 => ?_)⟩
    · have e := of_decide_eq_true e
      obtain rfl : i = 14 := by have := V.int.inj e; omega
      exact ⟨rfl, fun d hd => h1 (by decide) (by decide) d hd⟩
    refine ⟨_, rfl, rfl, _, rfl, ite2 (fun e => ?_) (fun e15 => ?_)⟩
    · have e := of_decide_eq_true e
      obtain rfl : i = 15 := by have := V.int.inj e; omega
      exact ⟨_, rfl, rfl, fun d hd => h1 (by decide) (by decide) d hd⟩
    refine ⟨_, rfl, rfl, _, rfl, ite2 (fun e => ?_) (fun e16 => ?_)⟩
    · have e := of_decide_eq_true e
      obtain rfl : i = 16 := by have := V.int.inj e; omega
      exact ⟨_, rfl, rfl, fun d hd => h1 (by decide) (by decide) d hd⟩
    refine ⟨_, rfl, rfl, _, rfl, ite2 (fun e => ?_) (fun e17 => ?_)⟩
    · have e := of_decide_eq_true e
      obtain rfl : i = 17 := by have := V.int.inj e; omega
      exact ⟨rfl, fun d hd => h1 (by decide) (by decide) d hd⟩
    refine ⟨_, rfl, rfl, _, rfl, ite2 (fun e => ?_) (fun e18 => ?_)⟩
    · have e := of_decide_eq_true e
      obtain rfl : i = 18 := by have := V.int.inj e; omega
      exact ⟨_, rfl, rfl, fun d hd => h1 (by decide) (by decide) d hd⟩
    refine ⟨_, rfl, rfl, _, rfl, ite2 (fun e => ?_) (fun e19 => ?_)⟩
    · have e := of_decide_eq_true e
      obtain rfl : i = 19 := by have := V.int.inj e; omega
      exact ⟨_, rfl, rfl, fun d hd => h1 (by decide) (by decide) d hd⟩
    refine ⟨_, rfl, rfl, _, rfl, ite2 (fun e => ?_) (fun e20 => ?_)⟩
    · have e := of_decide_eq_true e
      obtain rfl : i = 20 := by have := V.int.inj e; omega
      exact ⟨rfl, fun d hd => h1 (by decide) (by decide) d hd⟩
    refine ⟨_, rfl, rfl, _, rfl, ite2 (fun e => ?_) (fun e21 => ?_)⟩
    · have e := of_decide_eq_true e
      obtain rfl : i = 21 := by have := V.int.inj e; omega
      exact ⟨rfl, fun d hd => h1 (by decide) (by decide) d hd⟩
    refine h2 ?_
    rintro ⟨hlo, hhi⟩
    by_cases q11 : i = 11
    · subst q11; exact e11 (decide_eq_true rfl)
    by_cases q12 : i = 12
    · subst q12; exact e12 (decide_eq_true rfl)
    by_cases q13 : i = 13
    · subst q13; exact e13 (decide_eq_true rfl)
    by_cases q14 : i = 14
    · subst q14; exact e14 (decide_eq_true rfl)
    by_cases q15 : i = 15
    · subst q15; exact e15 (decide_eq_true rfl)
    by_cases q16 : i = 16
    · subst q16; exact e16 (decide_eq_true rfl)
    by_cases q17 : i = 17
    · subst q17; exact e17 (decide_eq_true rfl)
    by_cases q18 : i = 18
    · subst q18; exact e18 (decide_eq_true rfl)
    by_cases q19 : i = 19
    · subst q19; exact e19 (decide_eq_true rfl)
    by_cases q20 : i = 20
    · subst q20; exact e20 (decide_eq_true rfl)
    by_cases q21 : i = 21
    · subst q21; exact e21 (decide_eq_true rfl)
    omega
theorem sc_late : FnScope Nra Nra (defScope (top 44)) := ⟨rfl, rfl, rfl, by decide +kernel, rfl, by decide +kernel, by decide +kernel⟩
theorem ok_late (F : FnP K "_law_late" (top 44) f fd) (T : Xs P w K mg base C) (hm : mg "_law_late" = some (.ref f)) : GFn P w K mg base (L2.CX P w) "_law_late" Nra [] 4 (spRaise C 22 33) := by
  refine GFn.mk' F hm ?_ (fun _ _ _ _ _ _ us hl => match us, hl with | [_, _, _], _ => rfl)
  refine F.ok sc_late (fun vs H Q E h => ?_) (fun cdv A outer s H vs Q E hr h => ?_)
  · obtain ⟨i, a, b, rfl, _⟩ := h
    rfl
  · obtain ⟨i, a, b, rfl, hi, h1, h2⟩ := h
    refine ⟨_, pss_cons (ps_if (pt_cmpR op_eq (pv 0) pe_int (nomark _)) (pss_one (ps_raise rfl (takes_of rfl rfl rfl rfl) (pmk_x bfV T.x22 hr (by decide) rfl (pa_cons (pv 1) pa_nil)))) pss_nil)
      (pss_cons (ps_if (pt_cmpR op_eq (pv 0) pe_int (nomark _)) (pss_one (ps_raise rfl (takes_of rfl rfl rfl rfl) (pmk_x0 bfV T.x23 hr rfl))) pss_nil)
      (pss_cons (ps_if (pt_cmpR op_eq (pv 0) pe_int (nomark _)) (pss_one (ps_raise rfl (takes_of rfl rfl rfl rfl) (pmk_x0 bfV T.x24 hr rfl))) pss_nil)
      (pss_cons (ps_if (pt_cmpR op_eq (pv 0) pe_int (nomark _)) (pss_one (ps_raise rfl (takes_of rfl rfl rfl rfl) (pmk_x bfV T.x25 hr (by decide) rfl (pa_cons (pv 1) (pa_cons (pv 2) pa_nil))))) pss_nil)
      (pss_cons (ps_if (pt_cmpR op_eq (pv 0) pe_int (nomark _)) (pss_one (ps_raise rfl (takes_of rfl rfl rfl rfl) (pmk_x bfV T.x26 hr (by decide) rfl (pa_cons (pv 1) pa_nil)))) pss_nil)
      (pss_cons (ps_if (pt_cmpR op_eq (pv 0) pe_int (nomark _)) (pss_one (ps_raise rfl (takes_of rfl rfl rfl rfl) (pmk_x bfL T.x27 hr (by decide) rfl (pa_cons (pv 1) pa_nil)))) pss_nil)
      (pss_cons (ps_if (pt_cmpR op_eq (pv 0) pe_int (nomark _)) (pss_one (ps_raise rfl (takes_of rfl rfl rfl rfl) (pmk_x bfL T.x28 hr (by decide) rfl (pa_cons (pv 1) pa_nil)))) pss_nil)
      (pss_cons (ps_if (pt_cmpR op_eq (pv 0) pe_int (nomark _)) (pss_one (ps_raise rfl (takes_of rfl rfl rfl rfl) (pmk_x bfL T.x29 hr (by decide) rfl (pa_cons (pv 1) pa_nil)))) pss_nil)
      (pss_cons (ps_if (pt_cmpR op_eq (pv 0) pe_int (nomark _)) (pss_one (ps_raise rfl (takes_of rfl rfl rfl rfl) (pmk_x bfL T.x30 hr (by decide) rfl (pa_cons (pv 1) pa_nil)))) pss_nil)
      (pss_cons (ps_if (pt_cmpR op_eq (pv 0) pe_int (nomark _)) (pss_one (ps_raise rfl (takes_of rfl rfl rfl rfl) (pmk_x bfL T.x31 hr (by decide) rfl (pa_cons (pv 1) pa_nil)))) pss_nil)
      (pss_one (ps_if (pt_cmpR op_eq (pv 0) pe_int (nomark _)) (pss_one (ps_raise rfl (takes_of rfl rfl rfl rfl) (pmk_x0 bfL T.x32 hr rfl))) pss_nil))))))))))), ?_⟩
    refine ⟨_, rfl, rfl, _, rfl, ite2 (fun e => ?_) (fun e22 => ?_)⟩
    · have e := of_decide_eq_true e
      obtain rfl : i = 22 := by have := V.int.inj e; omega
      exact ⟨_, rfl, rfl, fun d hd => h1 (by decide) (by decide) d hd⟩
    refine ⟨_, rfl, rfl, _, rfl, ite2 (fun e => ?_) (fun e23 => ?_)⟩
    · have e := of_decide_eq_true e
      obtain rfl : i = 23 := by have := V.int.inj e; omega
      exact ⟨rfl, fun d hd => h1 (by decide) (by decide) d hd⟩
    refine ⟨_, rfl, rfl, _, rfl, ite2 (fun e => ?_) (fun e24 => ?_)⟩
    · have e := of_decide_eq_true e
      obtain rfl : i = 24 := by have := V.int.inj e; omega
      exact ⟨rfl, fun d hd => h1 (by decide) (by decide) d hd⟩
    refine ⟨_, rfl, rfl, _, rfl, ite2 (fun e => ?_) (fun e25 => ?_)⟩
    · have e := of_decide_eq_true e
      obtain rfl : i = 25 := by have := V.int.inj e; omega
      exact ⟨_, rfl, _, rfl, rfl, fun d hd => h1 (by decide) (by decide) d hd⟩
    refine ⟨_, rfl, rfl, _, rfl, ite2 (fun e => ?_) (fun e26 => ?_)⟩
    · have e := of_decide_eq_true e
      obtain rfl : i = 26 := by have := V.int.inj e; omega
      exact ⟨_, rfl, rfl, fun d hd => h1 (by decide) (by decide) d hd⟩
    refine ⟨_, rfl, rfl, _, rfl, ite2 (fun e => ?_) (fun e27 => ?_)⟩
    · have e := of_decide_eq_true e
      obtain rfl : i = 27 := by have := V.int.inj e; omega
      exact ⟨_, rfl, rfl, fun d hd => h1 (by decide) (by decide) d hd⟩
    refine ⟨_, rfl, rfl, _, rfl, ite2 (fun e => ?_) (fun e28 => ?_)⟩
    · have e := of_decide_eq_true e
      obtain rfl : i = 28 := by have := V.int.inj e; omega
      exact ⟨_, rfl, rfl, fun d hd => h1 (by decide) (by decide) d hd⟩
    refine ⟨_, rfl, rfl, _, rfl, ite2 (fun e => ?_) (fun e29 => ?_)⟩
    · have e := of_decide_eq_true e
      obtain rfl : i = 29 := by have := V.int.inj e; omega
      exact ⟨_, rfl, rfl, fun d hd => h1 (by decide) (by decide) d hd⟩
    refine ⟨_, rfl, rfl, _, rfl, ite2 (fun e => ?_) (fun e30 => ?_)⟩
    · have e := of_decide_eq_true e
      obtain rfl : i = 30 := by have := V.int.inj e; omega
      exact ⟨_, rfl, rfl, fun d hd => h1 (by decide) (by decide) d hd⟩
    refine ⟨_, rfl, rfl, _, rfl, ite2 (fun e => ?_) (fun e31 => ?_)⟩
    · have e := of_decide_eq_true e
      obtain rfl : i = 31 := by have := V.int.inj e; omega
      exact ⟨_, rfl, rfl, fun d hd => h1 (by decide) (by decide) d hd⟩
    refine ⟨_, rfl, rfl, _, rfl, ite2 (fun e => ?_) (fun e32 => ?_)⟩
    · have e := of_decide_eq_true e
      obtain rfl : i = 32 := by have := V.int.inj e; omega
      exact ⟨rfl, fun d hd => h1 (by decide) (by decide) d hd⟩
    refine h2 ?_
    rintro ⟨hlo, hhi⟩
    by_cases q22 : i = 22
    · subst q22; exact e22 (decide_eq_true rfl)
    by_cases q23 : i = 23
    · subst q23; exact e23 (decide_eq_true rfl)
    by_cases q24 : i = 24
    · subst q24; exact e24 (decide_eq_true rfl)
    by_cases q25 : i = 25
    · subst q25; exact e25 (decide_eq_true rfl)
    by_cases q26 : i = 26
    · subst q26; exact e26 (decide_eq_true rfl)
    by_cases q27 : i = 27
    · subst q27; exact e27 (decide_eq_true rfl)
    by_cases q28 : i = 28
    · subst q28; exact e28 (decide_eq_true rfl)
    by_cases q29 : i = 29
    · subst q29; exact e29 (decide_eq_true rfl)
    by_cases q30 : i = 30
    · subst q30; exact e30 (decide_eq_true rfl)
    by_cases q31 : i = 31
    · subst q31; exact e31 (decide_eq_true rfl)
    by_cases q32 : i = 32
    · subst q32; exact e32 (decide_eq_true rfl)
    omega
/-- the words -/
def wordsL : List Str := (["BadName", "BadOperation", "BadTree", "BadCount", "BadLeaf", "BadPlace", "BadMany", "BadText", "Uneven", "Strange", "Idle", "Bare", "Taken", "InUse", "Full", "Lacking", "Unlike", "Unjoined", "NotKept", "Breaks", "Wide", "NotTwos", "BadRow", "BadPlaces", "BadDeed", "Stopped", "BadPage", "NoOperation", "NoRule", "NoKind", "NoBridge", "NoWatch", "NothingLeft"] : List String).map Str.ofString
def wsT : Str := ("BadName BadOperation BadTree BadCount BadLeaf BadPlace BadMany " : Str) ++ ("BadText Uneven Strange Idle Bare Taken InUse Full Lacking " : Str) ++ ("Unlike Unjoined NotKept Breaks Wide NotTwos BadRow BadPlaces " : Str) ++ ("BadDeed Stopped BadPage NoOperation NoRule NoKind NoBridge " : Str) ++ ("NoWatch NothingLeft" : Str)
theorem words_split : Txt.split wsT (" " : Str) = wordsL := by kernel_rfl
def spWords : Sp := fun vs H Q _ => vs = [] ∧ ∀ p, H p = none → Q (.ref p) (upd H p (.lst (wordsL.map V.str)))
abbrev Nwo : List Str := ["_law_words_here"]
theorem sc_words : FnScope Nwo [] (defScope (top 41)) := ⟨rfl, rfl, rfl, by decide +kernel, rfl, by decide +kernel, by decide +kernel⟩
theorem ok_words (F : FnP K "_law_words" (top 41) f fd) (hm : mg "_law_words" = some (.ref f)) : GFn P w K mg base (L2.CX P w) "_law_words" [] [] 1 spWords := by
  refine GFn.mk' F hm ?_ (fun _ _ _ _ _ _ us hl => match us, hl with | [], _ => rfl)
  refine F.ok sc_words (fun vs H Q E h => ?_) (fun cdv A outer s H vs Q E hr h => ?_)
  · rw [h.1]; rfl
  · obtain ⟨rfl, k⟩ := h
    refine ⟨_, pss_cons (ps_set (i := 0) sc_words.nd rfl (Or.inl rfl) pe_str)
      (pss_cons (ps_set (i := 0) sc_words.nd rfl (Or.inl rfl) (pe_op op_add_str (pv 0) pe_str))
      (pss_cons (ps_set (i := 0) sc_words.nd rfl (Or.inl rfl) (pe_op op_add_str (pv 0) pe_str))
      (pss_cons (ps_set (i := 0) sc_words.nd rfl (Or.inl rfl) (pe_op op_add_str (pv 0) pe_str))
      (pss_cons (ps_set (i := 0) sc_words.nd rfl (Or.inl rfl) (pe_op op_add_str (pv 0) pe_str))
      (pss_one (ps_ret (pe_split (pv 0) pe_str))))))), ?_⟩
    refine ⟨_, rfl, _, _, rfl, rfl, by decide +kernel, ?_⟩
    refine ⟨_, rfl, _, _, rfl, rfl, by decide +kernel, ?_⟩
    refine ⟨_, rfl, _, _, rfl, rfl, by decide +kernel, ?_⟩
    refine ⟨_, rfl, _, _, rfl, rfl, by decide +kernel, ?_⟩
    refine ⟨_, rfl, ⟨_, rfl⟩, _, _, rfl, rfl, by decide +kernel, by decide +kernel, fun p hp => ?_⟩
    have e2 : Q (.ref p) (upd H p (.lst ((Txt.split wsT (" " : Str)).map V.str))) := by rw [words_split]; exact k p hp
    exact e2
end
end X3
namespace X3
open PySem PySem.Spec PyProof.Rows L2 ClX
open L2H (RoomH PinOk)
/-- what the written part says of the classes among each other -/
structure KtF (K : PySem.W.Frag) (mg : Str → Option Value) (C : Nat → Addr) (CB CM : Addr) : Prop where
  ec : ∀ i, i < 33 → ExcC K (C i)
  kt : ∀ i, i < 33 → ∀ j, j < 33 → PySem.W.kitOne K (.ref (C i)) (.ref (C j)) = some (decide (j = i))
  kb : ∀ i, i < 33 → PySem.W.kitOne K (.ref (C i)) (.ref CB) = some (decide (i < 27))
  kv : ∀ i, i < 33 → PySem.W.kitOne K (.ref (C i)) (.type "ValueError") = some (decide (i < 27))
  km : ∀ i, i < 33 → PySem.W.kitOne K (.ref (C i)) (.ref CM) = some (!decide (i < 27))
  kl : ∀ i, i < 33 → PySem.W.kitOne K (.ref (C i)) (.type "LookupError") = some (!decide (i < 27))
  mb : mg "BoughError" = some (.ref CB)
  mm : mg "Missing" = some (.ref CM)
  bi : mg "isinstance" = none
  bv : mg "ValueError" = none
  bl : mg "LookupError" = none
def flagsV (i : Nat) : List V := (List.range 33).map fun j => V.bl (decide (j = i))
def kindsV (i : Nat) : List V := [.bl (decide (i < 27)), .bl (decide (i < 27)), .bl (!decide (i < 27)), .bl (!decide (i < 27))]
/-- p is a caught error of the i-th class -/
structure Got (K : PySem.W.Frag) (C : Nat → Addr) (p : EO) (i : Nat) (d : Addr) (H : Hp) : Prop where
  lt : i < 33
  zc : Zc (.ref (C i)) (some d) p.2
  fl : ∃ vs, p.2.data = .fields vs
  xd : ∃ fs, H d = some (.xd fs)
theorem Got.keep {K : PySem.W.Frag} {C : Nat → Addr} {p : EO} {i : Nat} {d : Addr} {H H' : Hp} (g : Got K C p i d H) (k : Same H H') : Got K C p i d H' := by
  obtain ⟨h1, h2, h3, fs, h4⟩ := g
  exact ⟨h1, h2, h3, fs, k _ _ h4⟩
def spSays (K : PySem.W.Frag) (C : Nat → Addr) (g : Nat → List V) : EO → Sp := fun p vs H Q _ => ∃ (i : Nat) (d : Addr), vs = [.ref p.1] ∧ Got K C p i d H ∧ ∀ r H', Same H H' → H' r = some (.lst (g i)) → Q (.ref r) H'
section
variable {P : Program} {w : World} {K : PySem.W.Frag} {mg : Str → Option Value} {base : Heap} {f : Addr} {fd : FuncData} {C : Nat → Addr} {CB CM : Addr}
theorem rd_isX {p : EO} {i : Nat} {d : Addr} {H : Hp} {Q : VK} {σ : L2.St} {c : V} {u : Value} {b : Bool} (g : Got K C p i d H) (e : σ[0]? = some (some (.ref p.1))) (hc : ClsV c u) (hE : ExcC K (C i)) (hk : PySem.W.kitOne K (.ref (C i)) u = some b) (q : Q (.bl b) H) :
    tCB (rIsX K p) (tCons (tVar 0) (tCons (tC c) tNil)) σ H Q := by
  obtain ⟨h1, h2, h3, fs, h4⟩ := g
  exact ⟨_, e, _, _, _, _, _, _, rfl, hc, h2, hE, h4, hk, q⟩
theorem ext3 {p : EO} {i : Nat} {d r0 : Addr} {H0 H : Hp} {D : Ends} {xs : List V} {j : Nat} (T : KtF K mg C CB CM) (g : Got K C p i d H) (e : H r0 = some (.lst xs)) (n : H0 r0 = none) (k : Same H0 H) (hx : xs.length ≤ 100) (hj : j + 2 < 33)
    (q : ∀ H', Same H0 H' → Got K C p i d H' → H' r0 = some (.lst (xs ++ [.bl (decide (j = i)), .bl (decide (j + 1 = i)), .bl (decide (j + 2 = i))])) → D.nx [some (.ref p.1), some (.ref r0)] H') :
    tDrop (tBM K "list" rExtend (tVar 1) (tCons (tLst (tCons (tCB (rIsX K p) (tCons (tVar 0) (tCons (tC (.ref (C j))) tNil))) (tCons (tCB (rIsX K p) (tCons (tVar 0) (tCons (tC (.ref (C (j + 1)))) tNil))) (tCons (tCB (rIsX K p) (tCons (tVar 0) (tCons (tC (.ref (C (j + 2)))) tNil))) tNil)))) tNil)) D [some (.ref p.1), some (.ref r0)] H := by
  have hE := T.ec i g.lt
  refine ⟨_, rfl, .inl ⟨rfl, xs, SqL.of e⟩, ?_⟩
  refine rd_isX g rfl (.own _) hE (T.kt i g.lt j (by omega)) ?_
  refine rd_isX g rfl (.own _) hE (T.kt i g.lt (j + 1) (by omega)) ?_
  refine rd_isX g rfl (.own _) hE (T.kt i g.lt (j + 2) (by omega)) ?_
  refine ⟨(by show 3 ≤ sizeLine; decide), fun t ht => ?_⟩
  have hne : r0 ≠ t := ne_of_none e ht
  refine ⟨r0, t, xs, _, rfl, rfl, by rw [upd_ne hne, e], upd_same, Nat.le_trans (show xs.length + 3 ≤ 103 by omega) (by decide), ?_⟩
  have ed : d ≠ r0 := by
    obtain ⟨_, _, _, fs, h4⟩ := g
    rintro rfl
    rw [e] at h4
    cases h4
  refine q _ (fun b o hb => ?_) ?_ upd_same
  · rw [upd_ne (ne_of_none hb n), upd_ne (ne_of_none (k _ _ hb) ht)]
    exact k _ _ hb
  · obtain ⟨h1, h2, h3, fs, h4⟩ := g
    exact ⟨h1, h2, h3, fs, by rw [upd_ne ed, upd_ne (ne_of_none h4 ht)]; exact h4⟩
abbrev Nfl : List Str := ["_law_e", "_law_row"]
theorem sc_flags : FnScope Nfl ["_law_e"] (defScope (top 40)) := ⟨rfl, rfl, rfl, by decide +kernel, rfl, by decide +kernel, by decide +kernel⟩
theorem ok_flags (F : FnP K "_law_flags" (top 40) f fd) (X : Xs P w K mg base C) (T : KtF K mg C CB CM) (hm : mg "_law_flags" = some (.ref f)) : GFnP2 P w K mg base "_law_flags" ["_law_e"] 1 (spSays K C flagsV) := by
  refine ⟨f, fd, ?_, hm, F.kp, F.bindsN (fun _ _ _ _ _ _ us hl => match us, hl with | [_], _ => rfl)⟩
  refine fn_ofP2 F sc_flags (fun p vs H Q E h => ?_) (fun cdv A outer s H vs Q E p hr h => ?_)
  · obtain ⟨i, d, rfl, _⟩ := h
    rfl
  · obtain ⟨i, d, rfl, g, k⟩ := h
    have hp : p ∈ (L2H.cxH (L2.CX P w) P w K mg base Nfl "_law_flags" (defScope (top 40)) f cdv A outer s H E p).pn := List.mem_singleton.mpr rfl
    refine ⟨_, pss_cons (ps_set (i := 1) sc_flags.nd rfl (Or.inl rfl) (pe_lst pa_nil))
      (pss_cons (ps_expr (pe_bm PySem.F.plainAttrs_list PySem.F.slot_list_extend PySem.F.type_list_extend mt_extend (pv 1) (pa_cons (pe_lst (pa_cons (pe_callB (call_isX hp g.fl) rfl T.bi bt_isi (pa_cons (pv 0) (pa_cons (pe_glob (v := .ref (C 0)) rfl X.x0.m rfl) pa_nil))) (pa_cons (pe_callB (call_isX hp g.fl) rfl T.bi bt_isi (pa_cons (pv 0) (pa_cons (pe_glob (v := .ref (C 1)) rfl X.x1.m rfl) pa_nil))) (pa_cons (pe_callB (call_isX hp g.fl) rfl T.bi bt_isi (pa_cons (pv 0) (pa_cons (pe_glob (v := .ref (C 2)) rfl X.x2.m rfl) pa_nil))) pa_nil)))) pa_nil)))
      (pss_cons (ps_expr (pe_bm PySem.F.plainAttrs_list PySem.F.slot_list_extend PySem.F.type_list_extend mt_extend (pv 1) (pa_cons (pe_lst (pa_cons (pe_callB (call_isX hp g.fl) rfl T.bi bt_isi (pa_cons (pv 0) (pa_cons (pe_glob (v := .ref (C 3)) rfl X.x3.m rfl) pa_nil))) (pa_cons (pe_callB (call_isX hp g.fl) rfl T.bi bt_isi (pa_cons (pv 0) (pa_cons (pe_glob (v := .ref (C 4)) rfl X.x4.m rfl) pa_nil))) (pa_cons (pe_callB (call_isX hp g.fl) rfl T.bi bt_isi (pa_cons (pv 0) (pa_cons (pe_glob (v := .ref (C 5)) rfl X.x5.m rfl) pa_nil))) pa_nil)))) pa_nil)))
      (pss_cons (ps_expr (pe_bm PySem.F.plainAttrs_list PySem.F.slot_list_extend PySem.F.type_list_extend mt_extend (pv 1) (pa_cons (pe_lst (pa_cons (pe_callB (call_isX hp g.fl) rfl T.bi bt_isi (pa_cons (pv 0) (pa_cons (pe_glob (v := .ref (C 6)) rfl X.x6.m rfl) pa_nil))) (pa_cons (pe_callB (call_isX hp g.fl) rfl T.bi bt_isi (pa_cons (pv 0) (pa_cons (pe_glob (v := .ref (C 7)) rfl X.x7.m rfl) pa_nil))) (pa_cons (pe_callB (call_isX hp g.fl) rfl T.bi bt_isi (pa_cons (pv 0) (pa_cons (pe_glob (v := .ref (C 8)) rfl X.x8.m rfl) pa_nil))) pa_nil)))) pa_nil)))
      (pss_cons (ps_expr (pe_bm PySem.F.plainAttrs_list PySem.F.slot_list_extend PySem.F.type_list_extend mt_extend (pv 1) (pa_cons (pe_lst (pa_cons (pe_callB (call_isX hp g.fl) rfl T.bi bt_isi (pa_cons (pv 0) (pa_cons (pe_glob (v := .ref (C 9)) rfl X.x9.m rfl) pa_nil))) (pa_cons (pe_callB (call_isX hp g.fl) rfl T.bi bt_isi (pa_cons (pv 0) (pa_cons (pe_glob (v := .ref (C 10)) rfl X.x10.m rfl) pa_nil))) (pa_cons (pe_callB (call_isX hp g.fl) rfl T.bi bt_isi (pa_cons (pv 0) (pa_cons (pe_glob (v := .ref (C 11)) rfl X.x11.m rfl) pa_nil))) pa_nil)))) pa_nil)))
      (pss_cons (ps_expr (pe_bm PySem.F.plainAttrs_list PySem.F.slot_list_extend PySem.F.type_list_extend mt_extend (pv 1) (pa_cons (pe_lst (pa_cons (pe_callB (call_isX hp g.fl) rfl T.bi bt_isi (pa_cons (pv 0) (pa_cons (pe_glob (v := .ref (C 12)) rfl X.x12.m rfl) pa_nil))) (pa_cons (pe_callB (call_isX hp g.fl) rfl T.bi bt_isi (pa_cons (pv 0) (pa_cons (pe_glob (v := .ref (C 13)) rfl X.x13.m rfl) pa_nil))) (pa_cons (pe_callB (call_isX hp g.fl) rfl T.bi bt_isi (pa_cons (pv 0) (pa_cons (pe_glob (v := .ref (C 14)) rfl X.x14.m rfl) pa_nil))) pa_nil)))) pa_nil)))
      (pss_cons (ps_expr (pe_bm PySem.F.plainAttrs_list PySem.F.slot_list_extend PySem.F.type_list_extend mt_extend (pv 1) (pa_cons (pe_lst (pa_cons (pe_callB (call_isX hp g.fl) rfl T.bi bt_isi (pa_cons (pv 0) (pa_cons (pe_glob (v := .ref (C 15)) rfl X.x15.m rfl) pa_nil))) (pa_cons (pe_callB (call_isX hp g.fl) rfl T.bi bt_isi (pa_cons (pv 0) (pa_cons (pe_glob (v := .ref (C 16)) rfl X.x16.m rfl) pa_nil))) (pa_cons (pe_callB (call_isX hp g.fl) rfl T.bi bt_isi (pa_cons (pv 0) (pa_cons (pe_glob (v := .ref (C 17)) rfl X.x17.m rfl) pa_nil))) pa_nil)))) pa_nil)))
      (pss_cons (ps_expr (pe_bm PySem.F.plainAttrs_list PySem.F.slot_list_extend PySem.F.type_list_extend mt_extend (pv 1) (pa_cons (pe_lst (pa_cons (pe_callB (call_isX hp g.fl) rfl T.bi bt_isi (pa_cons (pv 0) (pa_cons (pe_glob (v := .ref (C 18)) rfl X.x18.m rfl) pa_nil))) (pa_cons (pe_callB (call_isX hp g.fl) rfl T.bi bt_isi (pa_cons (pv 0) (pa_cons (pe_glob (v := .ref (C 19)) rfl X.x19.m rfl) pa_nil))) (pa_cons (pe_callB (call_isX hp g.fl) rfl T.bi bt_isi (pa_cons (pv 0) (pa_cons (pe_glob (v := .ref (C 20)) rfl X.x20.m rfl) pa_nil))) pa_nil)))) pa_nil)))
      (pss_cons (ps_expr (pe_bm PySem.F.plainAttrs_list PySem.F.slot_list_extend PySem.F.type_list_extend mt_extend (pv 1) (pa_cons (pe_lst (pa_cons (pe_callB (call_isX hp g.fl) rfl T.bi bt_isi (pa_cons (pv 0) (pa_cons (pe_glob (v := .ref (C 21)) rfl X.x21.m rfl) pa_nil))) (pa_cons (pe_callB (call_isX hp g.fl) rfl T.bi bt_isi (pa_cons (pv 0) (pa_cons (pe_glob (v := .ref (C 22)) rfl X.x22.m rfl) pa_nil))) (pa_cons (pe_callB (call_isX hp g.fl) rfl T.bi bt_isi (pa_cons (pv 0) (pa_cons (pe_glob (v := .ref (C 23)) rfl X.x23.m rfl) pa_nil))) pa_nil)))) pa_nil)))
      (pss_cons (ps_expr (pe_bm PySem.F.plainAttrs_list PySem.F.slot_list_extend PySem.F.type_list_extend mt_extend (pv 1) (pa_cons (pe_lst (pa_cons (pe_callB (call_isX hp g.fl) rfl T.bi bt_isi (pa_cons (pv 0) (pa_cons (pe_glob (v := .ref (C 24)) rfl X.x24.m rfl) pa_nil))) (pa_cons (pe_callB (call_isX hp g.fl) rfl T.bi bt_isi (pa_cons (pv 0) (pa_cons (pe_glob (v := .ref (C 25)) rfl X.x25.m rfl) pa_nil))) (pa_cons (pe_callB (call_isX hp g.fl) rfl T.bi bt_isi (pa_cons (pv 0) (pa_cons (pe_glob (v := .ref (C 26)) rfl X.x26.m rfl) pa_nil))) pa_nil)))) pa_nil)))
      (pss_cons (ps_expr (pe_bm PySem.F.plainAttrs_list PySem.F.slot_list_extend PySem.F.type_list_extend mt_extend (pv 1) (pa_cons (pe_lst (pa_cons (pe_callB (call_isX hp g.fl) rfl T.bi bt_isi (pa_cons (pv 0) (pa_cons (pe_glob (v := .ref (C 27)) rfl X.x27.m rfl) pa_nil))) (pa_cons (pe_callB (call_isX hp g.fl) rfl T.bi bt_isi (pa_cons (pv 0) (pa_cons (pe_glob (v := .ref (C 28)) rfl X.x28.m rfl) pa_nil))) (pa_cons (pe_callB (call_isX hp g.fl) rfl T.bi bt_isi (pa_cons (pv 0) (pa_cons (pe_glob (v := .ref (C 29)) rfl X.x29.m rfl) pa_nil))) pa_nil)))) pa_nil)))
      (pss_cons (ps_expr (pe_bm PySem.F.plainAttrs_list PySem.F.slot_list_extend PySem.F.type_list_extend mt_extend (pv 1) (pa_cons (pe_lst (pa_cons (pe_callB (call_isX hp g.fl) rfl T.bi bt_isi (pa_cons (pv 0) (pa_cons (pe_glob (v := .ref (C 30)) rfl X.x30.m rfl) pa_nil))) (pa_cons (pe_callB (call_isX hp g.fl) rfl T.bi bt_isi (pa_cons (pv 0) (pa_cons (pe_glob (v := .ref (C 31)) rfl X.x31.m rfl) pa_nil))) (pa_cons (pe_callB (call_isX hp g.fl) rfl T.bi bt_isi (pa_cons (pv 0) (pa_cons (pe_glob (v := .ref (C 32)) rfl X.x32.m rfl) pa_nil))) pa_nil)))) pa_nil)))
      (pss_one (ps_ret (pv 1)))))))))))))), ?_⟩
    refine ⟨(by show 0 ≤ sizeLine; decide), fun r0 hr0 => ?_⟩
    have k0 : Same H (upd H r0 (.lst [])) := upd_keep hr0
    have g0 := g.keep k0
    refine ext3 (j := 0) T g0 upd_same hr0 k0 (by simp) (by decide) fun H1 k1 g1 e1 => ?_
    refine ext3 (j := 3) T g1 e1 hr0 k1 (by simp) (by decide) fun H2 k2 g2 e2 => ?_
    refine ext3 (j := 6) T g2 e2 hr0 k2 (by simp) (by decide) fun H3 k3 g3 e3 => ?_
    refine ext3 (j := 9) T g3 e3 hr0 k3 (by simp) (by decide) fun H4 k4 g4 e4 => ?_
    refine ext3 (j := 12) T g4 e4 hr0 k4 (by simp) (by decide) fun H5 k5 g5 e5 => ?_
    refine ext3 (j := 15) T g5 e5 hr0 k5 (by simp) (by decide) fun H6 k6 g6 e6 => ?_
    refine ext3 (j := 18) T g6 e6 hr0 k6 (by simp) (by decide) fun H7 k7 g7 e7 => ?_
    refine ext3 (j := 21) T g7 e7 hr0 k7 (by simp) (by decide) fun H8 k8 g8 e8 => ?_
    refine ext3 (j := 24) T g8 e8 hr0 k8 (by simp) (by decide) fun H9 k9 g9 e9 => ?_
    refine ext3 (j := 27) T g9 e9 hr0 k9 (by simp) (by decide) fun H10 k10 g10 e10 => ?_
    refine ext3 (j := 30) T g10 e10 hr0 k10 (by simp) (by decide) fun H11 k11 g11 e11 => ?_
    exact ⟨_, rfl, k r0 _ k11 e11⟩
abbrev Nko : List Str := ["_law_e", "_law_found"]
theorem sc_kinds : FnScope Nko ["_law_e"] (defScope (top 45)) := ⟨rfl, rfl, rfl, by decide +kernel, rfl, by decide +kernel, by decide +kernel⟩
theorem ok_kinds (F : FnP K "_law_kinds_of" (top 45) f fd) (T : KtF K mg C CB CM) (hm : mg "_law_kinds_of" = some (.ref f)) : GFnP2 P w K mg base "_law_kinds_of" ["_law_e"] 1 (spSays K C kindsV) := by
  refine ⟨f, fd, ?_, hm, F.kp, F.bindsN (fun _ _ _ _ _ _ us hl => match us, hl with | [_], _ => rfl)⟩
  refine fn_ofP2 F sc_kinds (fun p vs H Q E h => ?_) (fun cdv A outer s H vs Q E p hr h => ?_)
  · obtain ⟨i, d, rfl, _⟩ := h
    rfl
  · obtain ⟨i, d, rfl, g, k⟩ := h
    have hp : p ∈ (L2H.cxH (L2.CX P w) P w K mg base Nko "_law_kinds_of" (defScope (top 45)) f cdv A outer s H E p).pn := List.mem_singleton.mpr rfl
    refine ⟨_, pss_cons (ps_set (i := 1) sc_kinds.nd rfl (Or.inl rfl) (pe_lst (pa_cons (pe_callB (call_isX hp g.fl) rfl T.bi bt_isi (pa_cons (pv 0) (pa_cons (pe_glob (v := .ref CB) rfl T.mb rfl) pa_nil))) (pa_cons (pe_callB (call_isX hp g.fl) rfl T.bi bt_isi (pa_cons (pv 0) (pa_cons (pe_bltn (v := .ty "ValueError") rfl T.bv bt_VE rfl) pa_nil))) (pa_cons (pe_callB (call_isX hp g.fl) rfl T.bi bt_isi (pa_cons (pv 0) (pa_cons (pe_glob (v := .ref CM) rfl T.mm rfl) pa_nil))) pa_nil)))))
      (pss_one (ps_ret (pe_op op_cat (pv 1) (pe_lst (pa_cons (pe_callB (call_isX hp g.fl) rfl T.bi bt_isi (pa_cons (pv 0) (pa_cons (pe_bltn (v := .ty "LookupError") rfl T.bl bt_LE rfl) pa_nil))) pa_nil))))), ?_⟩
    have hE := T.ec i g.lt
    refine rd_isX g rfl (.own _) hE (T.kb i g.lt) ?_
    refine rd_isX g rfl (.ty _) hE (T.kv i g.lt) ?_
    refine rd_isX g rfl (.own _) hE (T.km i g.lt) ?_
    refine ⟨(by show 3 ≤ sizeLine; decide), fun t ht => ?_⟩
    have k1 : Same H (upd H t (.lst [.bl (decide (i < 27)), .bl (decide (i < 27)), .bl (!decide (i < 27))])) := upd_keep ht
    refine ⟨_, rfl, ?_⟩
    refine rd_isX (g.keep k1) rfl (.ty _) hE (T.kl i g.lt) ?_
    refine ⟨(by show 1 ≤ sizeLine; decide), fun t2 ht2 => ?_⟩
    refine ⟨t, t2, _, _, rfl, rfl, by rw [upd_ne (ne_of_none upd_same ht2)]; exact upd_same, upd_same, (by show 3 + 1 ≤ sizeLine; decide), fun t3 ht3 => ?_⟩
    exact k t3 _ ((k1.trans (upd_keep ht2)).trans (upd_keep ht3)) upd_same
/-- the bag: the script's first 63 cells, at the start -/
def spBag (K : PySem.W.Frag) : Sp := fun vs H Q _ => ∃ (c : Addr) (cells : List Int), vs = [.ref c] ∧ SqL K H c (cells.map V.int) ∧ ∀ p H', Same H H' → Dr K H' p → H p = none → Q (.ref p) H'
abbrev Nbag : List Str := ["_law_script"]
theorem sc_bag : FnScope Nbag ["_law_script"] (defScope (top 37)) := ⟨rfl, rfl, rfl, by decide +kernel, rfl, by decide +kernel, by decide +kernel⟩
theorem ok_bag (F : FnP K "_law_bag" (top 37) f fd) (hl : mg "list" = none) (hm : mg "_law_bag" = some (.ref f)) : GFn P w K mg base (L2.CX P w) "_law_bag" ["_law_script"] [] 1 (spBag K) := by
  refine GFn.mk' F hm ?_ (fun _ _ _ _ _ _ us hl => match us, hl with | [_], _ => rfl)
  refine F.ok sc_bag (fun vs H Q E h => ?_) (fun cdv A outer s H vs Q E hr h => ?_)
  · obtain ⟨c, cells, rfl, _⟩ := h
    rfl
  · obtain ⟨c, cells, rfl, hc, k⟩ := h
    refine ⟨_, pss_one (ps_ret (pe_lst (pa_cons (pe_callTy call_list_of rfl hl bt_list (pa_cons (pe_slice sl_list (pv 0) po_none (po_some pe_int)) pa_nil)) (pa_cons pe_int (pa_cons pe_int (pa_cons pe_int pa_nil)))))), ?_⟩
    refine ⟨_, rfl, _, rfl, c, _, rfl, hc, fun p hp => ?_⟩
    refine ⟨p, _, rfl, .inl (SqL.of upd_same), fun l hl => ?_⟩
    refine ⟨(by show 4 ≤ sizeLine; decide), fun r hr => ?_⟩
    have k1 := ((upd_keep (o := .lst (cutV (cells.map V.int) none (some 63))) hp).trans (upd_keep (o := .lst (cutV (cells.map V.int) none (some 63))) hl)).trans (upd_keep (o := .lst [.ref l, .int 0, .int 0, .int 30011]) hr)
    have nlr : l ≠ r := ne_of_none upd_same hr
    refine k r _ k1 ⟨l, (cells.drop (HT.sIx (cells.map V.int).length 0 none)).take (HT.sIx (cells.map V.int).length (cells.map V.int).length (some 63) - HT.sIx (cells.map V.int).length 0 none), 0, 0, 30011, upd_same, ?_, nlr, by decide, by decide, by decide, by decide⟩ ?_
    · rw [List.map_take, List.map_drop]
      exact SqL.of (by rw [upd_ne nlr]; exact upd_same)
    · cases e : H r with
      | none => rfl
      | some o =>
        have := upd_keep (o := .lst (cutV (cells.map V.int) none (some 63))) hp _ _ e
        have := upd_keep (o := .lst (cutV (cells.map V.int) none (some 63))) hl _ _ this
        rw [hr] at this
        cases this
end
end X3
namespace X3
open PySem PySem.Spec PyProof.Rows L2 ClX
open L2H (RoomH PinOk)
theorem pe_gS {X : Cx} {CX : CXT} {k : Nat} {x : Str} {ps : List Str} {sp : Sp} {dvs : List V} {E : L2.St → XK} {p pos : Pos} {e : Expr} {es : List Expr} {t : TA} (G : GFn X.prog X.w X.K X.mg X.base CX x ps dvs k sp) (hr : Room k X.A) (hg : Gl X x) (hx : ∀ σ, PassesAt CX X σ (E σ)) (ha : PA X (e :: es) t)
    (hdb : (x == ("__debug__" : Str)) = false := by decide) (he : starEach (e :: es) X.env = (false, eval e X.env) :: starEach es X.env := by rfl) (hpl : (backTo pos (starEach es X.env)).any (·.1) = false := by rfl) :
    PE X (.Call (.Name x p) (e :: es) [] pos) (tCallSD sp dvs E t) := by
  obtain ⟨f, fd, ds, F, hm, hk, hb, hd⟩ := G.ex
  exact pe_callSD F hr hg hm hk hb hd hx ha hdb he hpl
theorem dp_rep {K : PySem.W.Frag} {H : Hp} (a : Int) : ∀ n : Nat, DpAll K H (List.replicate n (.int a)) (List.replicate n (.int a))
  | 0 => .nil
  | n + 1 => .cons (.int a) (dp_rep a n)
theorem pe_xfPK {X : Cx} {K : PySem.W.Frag} {p : EO} {e : Expr} {te : TE} {pos : Pos} {n : Str} (hK : X.K = K) (hp : p ∈ X.pn) (hf : ∃ vs, p.2.data = .fields vs) (he : PE X e te) (hb : attributeBase e n X.env (eval e X.env) = eval e X.env := by rfl) :
    PE X (.Attribute e n pos) (tXfP K p n te) := by
  subst hK
  exact pe_xfP hp hf he hb
/-- C(v).f, f a field of the made one -/
theorem rd_xf {P : Program} {w : World} {K : PySem.W.Frag} {mg : Str → Option Value} {base : Heap} {newId : String} {tl : List Value} {x z : Str} {C : Addr} {fs : List Str} {f : Str} {ta : TA} {σ : L2.St} {H : Hp} {Q : VK} {vs : List V} {v : V}
    (T : XCls P w K mg base newId tl x C z fs) (hl : vs.length = fs.length) (hf : f ∈ fs) (hv : (xflds z fs vs).lookup f = some v) (ha : ∀ Q : List V → Hp → Prop, Q vs H → ta σ H Q) (q : ∀ H', Same H H' → Q v H') :
    tXFld K newId tl (tValX C z fs ta) f σ H Q := by
  refine ha _ ⟨hl, fun a d H2 na nd ne ea ed k => ⟨a, C, d, _, v, rfl, T.xc, T.nf f hf, ea, ed, hv, q H2 fun b o hb => ?_⟩⟩
  rw [k b (ne_of_none hb na) (ne_of_none hb nd)]
  exact hb
structure Kit76 (P : Program) (w : World) (K : PySem.W.Frag) (mg : Str → Option Value) (base : Heap) (C : Nat → Addr) (CB CM : Addr) : Prop where
  X : Xs P w K mg base C
  T : KtF K mg C CB CM
  xB : ∀ i, i < 33 → PySem.W.exmOne K (.ref (C i)) (.ref CB) = some (decide (i < 27))
  xM : ∀ i, i < 33 → PySem.W.exmOne K (.ref (C i)) (.ref CM) = some (!decide (i < 27))
  xf : ∀ i, i < 33 → XfC K (C i)
  xw : ∀ i, i < 33 → PySem.W.findIn K (.ref (C i)) "word" = some none
  rng : mg "range" = none
  bag : GFn P w K mg base (L2.CX P w) "_law_bag" ["_law_script"] [] 1 (spBag K)
  pull : GFn P w K mg base (L2.CX P w) "_law_pull" ["_law_dr", "_law_many"] [] 1 (spPull K)
  same : GFn P w K mg base (L2.CX P w) "_law_same" ["_law_found", "_law_due"] [] 4 (spSame K 3)
  words : GFn P w K mg base (L2.CX P w) "_law_words" [] [] 1 spWords
  early : GFn P w K mg base (L2.CX P w) "_law_early" Nra [] 4 (spRaise C 0 11)
  middle : GFn P w K mg base (L2.CX P w) "_law_middle" Nra [] 4 (spRaise C 11 22)
  late : GFn P w K mg base (L2.CX P w) "_law_late" Nra [] 4 (spRaise C 22 33)
  flags : GFnP2 P w K mg base "_law_flags" ["_law_e"] 1 (spSays K C flagsV)
  kinds : GFnP2 P w K mg base "_law_kinds_of" ["_law_e"] 1 (spSays K C kindsV)

abbrev TSU (K : PySem.W.Frag) (C : Nat → Addr) : TSX := fun a oe _ _ => tAsg (tLst (tCons (tCall (spSays K C flagsV (a, oe)) [] E0 (tCons (tVar 8) tNil)) (tCons (tXfP K (a, oe) "word" (tVar 8)) (tCons (tCall (spSays K C kindsV (a, oe)) [] E0 (tCons (tVar 8) tNil)) tNil)))) (gName 7)
def wordAt (n : Nat) : Str := wordsL.getD n default
def Dn (n : Nat) : D := .lst [.lst ((List.range 33).map fun j => .bl (decide (j = n))), .str (wordAt n), .lst [.bl (decide (n < 27)), .bl (decide (n < 27)), .bl (!decide (n < 27)), .bl (!decide (n < 27))]]
theorem repL_bl {K : PySem.W.Frag} {H : Hp} (g : Nat → Bool) : ∀ l : List Nat, RepL K H (l.map fun j => V.bl (g j)) (l.map fun j => D.bl (g j))
  | [] => .nil
  | j :: l => .cons (.bl _) (repL_bl g l)
theorem xf_word (a b : V) : ∀ n, n < 33 → (xfOf n a b).lookup ("word" : Str) = some (V.str (wordAt n))
  | 0, _ => by rfl
  | 1, _ => by rfl
  | 2, _ => by rfl
  | 3, _ => by rfl
  | 4, _ => by rfl
  | 5, _ => by rfl
  | 6, _ => by rfl
  | 7, _ => by rfl
  | 8, _ => by rfl
  | 9, _ => by rfl
  | 10, _ => by rfl
  | 11, _ => by rfl
  | 12, _ => by rfl
  | 13, _ => by rfl
  | 14, _ => by rfl
  | 15, _ => by rfl
  | 16, _ => by rfl
  | 17, _ => by rfl
  | 18, _ => by rfl
  | 19, _ => by rfl
  | 20, _ => by rfl
  | 21, _ => by rfl
  | 22, _ => by rfl
  | 23, _ => by rfl
  | 24, _ => by rfl
  | 25, _ => by rfl
  | 26, _ => by rfl
  | 27, _ => by rfl
  | 28, _ => by rfl
  | 29, _ => by rfl
  | 30, _ => by rfl
  | 31, _ => by rfl
  | 32, _ => by rfl
  | n + 33, h => absurd h (by omega)
theorem depthL_bl (g : Nat → Bool) : ∀ l : List Nat, D.depthL (l.map fun j => D.bl (g j)) = 0
  | [] => rfl
  | j :: l => by rw [List.map_cons, D.depthL, depthL_bl g l]; rfl
theorem dn_depth (n : Nat) : (Dn n).depth < 3 := by
  have e := depthL_bl (fun j => decide (j = n)) (List.range 33)
  simp only [Dn, D.depth, D.depthL, e]
  decide
theorem rep_dn {K : PySem.W.Frag} {H : Hp} {n : Nat} {r a b : Addr} {z : Str} (ez : z = wordAt n) (hr : H r = some (.lst [.ref a, .str z, .ref b])) (ha : H a = some (.lst (flagsV n))) (hb : H b = some (.lst (kindsV n))) : Rep K H (.ref r) (Dn n) := by
  subst ez
  exact .lst (SqL.of hr) (.cons (.lst (SqL.of ha) (repL_bl (fun j => decide (j = n)) _) (by rw [List.length_map, List.length_range]; decide)) (.cons (.str _) (.cons (.lst (SqL.of hb) (.cons (.bl _) (.cons (.bl _) (.cons (.bl _) (.cons (.bl _) .nil)))) (by show 4 ≤ sizeLine; decide)) .nil))) (by show 3 ≤ sizeLine; decide)
theorem caught {P : Program} {w : World} {K : PySem.W.Frag} {mg : Str → Option Value} {base : Heap} {C : Nat → Addr} {CB CM : Addr} (Y : Kit76 P w K mg base C CB CM) {D : Ends} {n : Nat} {d : Addr} {H : Hp} {a b : V} {x0 x1 x2 x3 x4 x5 x6 x7 x8 x9 x10 x11 x12 : Option V} (hn : n < 33) (hd : H d = some (.xd (xfOf n a b)))
    (q : ∀ r H', Rep K H' (.ref r) (Dn n) → D.nx [x0, x1, x2, x3, x4, x5, x6, some (.ref r), none, x9, x10, x11, x12] H') :
    wAll K (fun _ _ _ _ => False) D [(.ref CB, some 8, TSU K C), (.ref CM, some 8, TSU K C)] (.ref (C n)) (some d) [x0, x1, x2, x3, x4, x5, x6, x7, x8, x9, x10, x11, x12] H := by
  have body : ∀ (e : Addr) (oe : Obj), H e = none → Zc (.ref (C n)) (some d) oe → (∃ vs, oe.data = .fields vs) → TSU K C e oe (.ref (C n)) (some d) (endsGo (some 8) D) (setGo [x0, x1, x2, x3, x4, x5, x6, x7, x8, x9, x10, x11, x12] e (some 8)) H := by
    intro e oe ne hz hf
    refine ⟨_, rfl, n, d, rfl, ⟨hn, hz, hf, _, hd⟩, fun r1 H1 k1 e1 => ?_⟩
    refine ⟨_, rfl, rfl, C n, d, _, _, hz, Y.xf n hn, Y.xw n hn, k1 _ _ hd, xf_word a b n hn, ?_⟩
    refine ⟨_, rfl, n, d, rfl, ⟨hn, hz, hf, _, k1 _ _ hd⟩, fun r2 H2 k2 e2 => ?_⟩
    refine ⟨(by show 3 ≤ sizeLine; decide), fun r hr => ?_⟩
    exact q r _ (rep_dn rfl upd_same (by rw [upd_ne (ne_of_none (k2 _ _ e1) hr)]; exact k2 _ _ e1) (by rw [upd_ne (ne_of_none e2 hr)]; exact e2))
  refine ⟨_, Y.xB n hn, fun _ => body, fun hb => ⟨_, Y.xM n hn, fun _ => body, fun hm => ?_⟩⟩
  rw [hb] at hm
  cases hm
def spLaw (K : PySem.W.Frag) : Sp := fun vs H Q _ => ∃ (c : Addr) (cells : List Int), vs = [.ref c] ∧ SqL K H c (cells.map V.int) ∧ ∀ H', Q (.bl true) H'
abbrev Nlaw : List Str := ["_law_script", "_law_dr", "_law_a", "_law_b", "_law_start", "_law_step", "_law_at", "_law_found", "_law_e", "_law_early_here", "_law_due", "_law_k", "_law_some"]
section
variable {P : Program} {w : World} {K : PySem.W.Frag} {mg : Str → Option Value} {base : Heap} {f : Addr} {fd : FuncData} {C : Nat → Addr} {CB CM : Addr}
theorem sc_law : FnScope Nlaw ["_law_script"] (defScope (top 46)) := ⟨rfl, rfl, rfl, by decide +kernel, rfl, by decide +kernel, by decide +kernel⟩
theorem ok_law (F : FnP K "law" (top 46) f fd) (Y : Kit76 P w K mg base C CB CM) : FnOk P w K mg base (L2.CX P w) 5 f fd ["_law_script"] (spLaw K) := by
  refine F.ok sc_law (fun vs H Q E h => ?_) (fun cdv A outer s H vs Q E hr h => ?_)
  · obtain ⟨c, cells, rfl, _⟩ := h
    rfl
  · obtain ⟨c, cells, rfl, hc, k⟩ := h
    have X := Y.X
    have T := Y.T
    have r1 : Room 1 (A.deeper (envOfC "law" (defScope (top 46)) s.heap.objs.size f cdv)) := hr.mono (by decide)
    have r3 : Room 3 (A.deeper (envOfC "law" (defScope (top 46)) s.heap.objs.size f cdv)) := hr.mono (by decide)
    have hu : (A.deeper (envOfC "law" (defScope (top 46)) s.heap.objs.size f cdv)).units + 64 < cLine := by have := hr.un; omega
    refine ⟨_, PSs.nox (pss_cons (ps_set (i := 1) sc_law.nd rfl (Or.inl rfl) (pe_g Y.bag r1 rfl (E := E0) passL (pa_cons (pv 0) pa_nil)))
      (pss_cons (ps_par (i := 2) (j := 3) rfl sc_law.nd rfl rfl (by decide) rfl rfl (pa_cons (pe_g Y.pull r1 rfl (E := E0) passL (pa_cons (pv 1) (pa_cons (pe_op op_pow pe_int pe_int) pa_nil))) (pa_cons (pe_g Y.pull r1 rfl (E := E0) passL (pa_cons (pv 1) (pa_cons (pe_op op_pow pe_int pe_int) pa_nil))) pa_nil)) (by rfl))
      (pss_cons (ps_set (i := 4) sc_law.nd rfl (Or.inl rfl) (pe_g Y.pull r1 rfl (E := E0) passL (pa_cons (pv 1) (pa_cons (pe_int) pa_nil))))
      (pss_cons (ps_for PassesOwn.never rfl (pi_range1 rfl Y.rng (pa_cons pe_int pa_nil)) (pg_name (i := 5) sc_law.nd rfl (Or.inl rfl)) (pss_cons (ps_set (i := 6) sc_law.nd rfl (Or.inr rfl) (pe_op op_mod (pe_op op_add (pv 4) (pe_op op_mul pe_int (pv 5))) pe_int))
      (pss_cons (ps_set (i := 7) sc_law.nd rfl (Or.inl rfl) (pe_lst pa_nil))
      (pss_cons (ps_try_all rfl rfl takes0 (fun W pn xe tk hp => pss_cons (ps_expr (pe_gS Y.early hr rfl (passAt tk) (pa_cons (pv 6) (pa_cons (pv 2) (pa_cons (pv 3) pa_nil))))) (pss_cons (ps_expr (pe_gS Y.middle hr rfl (passAt tk) (pa_cons (pv 6) (pa_cons (pv 2) (pa_cons (pv 3) pa_nil))))) (pss_one (ps_expr (pe_gS Y.late hr rfl (passAt tk) (pa_cons (pv 6) (pa_cons (pv 2) (pa_cons (pv 3) pa_nil)))))))) (.as (i := 8) sc_law.nd rfl rfl ⟨rfl, rfl, .inl T.mb⟩ (fun a oe cls d pn hz hf => by exact pss_one (ps_set (i := 7) sc_law.nd rfl (Or.inl rfl) (pe_lst (pa_cons (pe_g2 (p := (a, oe)) Y.flags (roomH_mark r1) List.mem_cons_self (by rfl) (pa_cons (pv 8) pa_nil)) (pa_cons (pe_xfPK (K := K) (p := (a, oe)) rfl List.mem_cons_self hf (pv 8)) (pa_cons (pe_g2 (p := (a, oe)) Y.kinds (roomH_mark r1) List.mem_cons_self (by rfl) (pa_cons (pv 8) pa_nil)) pa_nil)))))) (.as (i := 8) sc_law.nd rfl rfl ⟨rfl, rfl, .inl T.mm⟩ (fun a oe cls d pn hz hf => by exact pss_one (ps_set (i := 7) sc_law.nd rfl (Or.inl rfl) (pe_lst (pa_cons (pe_g2 (p := (a, oe)) Y.flags (roomH_mark r1) List.mem_cons_self (by rfl) (pa_cons (pv 8) pa_nil)) (pa_cons (pe_xfPK (K := K) (p := (a, oe)) rfl List.mem_cons_self hf (pv 8)) (pa_cons (pe_g2 (p := (a, oe)) Y.kinds (roomH_mark r1) List.mem_cons_self (by rfl) (pa_cons (pv 8) pa_nil)) pa_nil)))))) .nil)))
      (pss_cons (ps_set (i := 9) sc_law.nd rfl (Or.inl rfl) (pe_cmpR op_lt (pv 6) pe_int (nomark _)))
      (pss_cons (ps_set (i := 10) sc_law.nd rfl (Or.inl rfl) (pe_lst (pa_cons (pe_lc (own := [("_law_k", 11)]) (g := gName 11) (tt := tYes) rfl sc_law.nd (pi_range1 rfl Y.rng (pa_cons pe_int pa_nil)) (blkOk_by (N := Nlaw) (sc := defScope (top 46)) (by decide +kernel)) (fun _ _ _ _ _ => pg_name (i := 11) sc_law.nd rfl (Or.inl rfl)) (fun _ _ _ _ _ => pts_nil) (fun _ _ _ _ _ => pe_cmpR op_eq (pv 11) (pv 6) (nomark _))) (pa_cons (pe_ix (r := rIx K) ix_seq (pe_g0 Y.words r1 rfl (E := E0) passL) (pv 6) (fun _ _ => rfl)) pa_nil))))
      (pss_cons (ps_expr (pe_bm PySem.F.plainAttrs_list PySem.F.slot_list_append PySem.type_list_append mt_append (pv 10) (pa_cons (pe_lst (pa_cons (pv 9) (pa_cons (pv 9) (pa_cons (pe_not (pv 9)) (pa_cons (pe_not (pv 9)) pa_nil))))) pa_nil)))
      (pss_one (ps_if (pt_not (pt_val (pe_g Y.same hr rfl (E := E0) passL (pa_cons (pv 7) (pa_cons (pv 10) pa_nil))))) (pss_one (ps_ret pe_bl)) pss_nil)))))))))
      (pss_cons (ps_set (i := 12) sc_law.nd rfl (Or.inl rfl) (pe_lst (pa_cons (pe_xfld (newId := "ValueError.__new__") (tl := tlV) (pe_valx bfV X.x0 r3 (by decide) rfl (pa_cons (pv 2) pa_nil))) (pa_cons (pe_xfld (newId := "ValueError.__new__") (tl := tlV) (pe_valx bfV X.x1 r3 (by decide) rfl (pa_cons (pv 2) pa_nil))) (pa_cons (pe_xfld (newId := "ValueError.__new__") (tl := tlV) (pe_valx bfV X.x2 r3 (by decide) rfl (pa_cons (pv 2) pa_nil))) (pa_cons (pe_xfld (newId := "ValueError.__new__") (tl := tlV) (pe_valx bfV X.x3 r3 (by decide) rfl (pa_cons (pv 2) pa_nil))) (pa_cons (pe_xfld (newId := "ValueError.__new__") (tl := tlV) (pe_valx bfV X.x7 r3 (by decide) rfl (pa_cons (pv 2) pa_nil))) pa_nil)))))))
      (pss_cons (ps_set (i := 12) sc_law.nd rfl (Or.inl rfl) (pe_op op_cat (pv 12) (pe_lst (pa_cons (pe_xfld (newId := "ValueError.__new__") (tl := tlV) (pe_valx bfV X.x8 r3 (by decide) rfl (pa_cons (pv 2) pa_nil))) (pa_cons (pe_xfld (newId := "ValueError.__new__") (tl := tlV) (pe_valx bfV X.x9 r3 (by decide) rfl (pa_cons (pv 2) pa_nil))) (pa_cons (pe_xfld (newId := "ValueError.__new__") (tl := tlV) (pe_valx bfV X.x12 r3 (by decide) rfl (pa_cons (pv 2) pa_nil))) (pa_cons (pe_xfld (newId := "ValueError.__new__") (tl := tlV) (pe_valx bfV X.x13 r3 (by decide) rfl (pa_cons (pv 2) pa_nil))) pa_nil)))))))
      (pss_cons (ps_set (i := 12) sc_law.nd rfl (Or.inl rfl) (pe_op op_cat (pv 12) (pe_lst (pa_cons (pe_xfld (newId := "ValueError.__new__") (tl := tlV) (pe_valx bfV X.x15 r3 (by decide) rfl (pa_cons (pv 2) pa_nil))) (pa_cons (pe_xfld (newId := "ValueError.__new__") (tl := tlV) (pe_valx bfV X.x16 r3 (by decide) rfl (pa_cons (pv 2) pa_nil))) (pa_cons (pe_xfld (newId := "ValueError.__new__") (tl := tlV) (pe_valx bfV X.x18 r3 (by decide) rfl (pa_cons (pv 2) pa_nil))) (pa_cons (pe_xfld (newId := "ValueError.__new__") (tl := tlV) (pe_valx bfV X.x19 r3 (by decide) rfl (pa_cons (pv 2) pa_nil))) pa_nil)))))))
      (pss_cons (ps_set (i := 12) sc_law.nd rfl (Or.inl rfl) (pe_op op_cat (pv 12) (pe_lst (pa_cons (pe_xfld (newId := "ValueError.__new__") (tl := tlV) (pe_valx bfV X.x22 r3 (by decide) rfl (pa_cons (pv 2) pa_nil))) (pa_cons (pe_xfld (newId := "ValueError.__new__") (tl := tlV) (pe_valx bfV X.x25 r3 (by decide) rfl (pa_cons (pv 2) (pa_cons (pv 3) pa_nil)))) (pa_cons (pe_xfld (newId := "ValueError.__new__") (tl := tlV) (pe_valx bfV X.x26 r3 (by decide) rfl (pa_cons (pv 2) pa_nil))) (pa_cons (pe_xfld (newId := "LookupError.__new__") (tl := tlL) (pe_valx bfL X.x27 r3 (by decide) rfl (pa_cons (pv 2) pa_nil))) pa_nil)))))))
      (pss_cons (ps_set (i := 12) sc_law.nd rfl (Or.inl rfl) (pe_op op_cat (pv 12) (pe_lst (pa_cons (pe_xfld (newId := "LookupError.__new__") (tl := tlL) (pe_valx bfL X.x28 r3 (by decide) rfl (pa_cons (pv 2) pa_nil))) (pa_cons (pe_xfld (newId := "LookupError.__new__") (tl := tlL) (pe_valx bfL X.x29 r3 (by decide) rfl (pa_cons (pv 2) pa_nil))) (pa_cons (pe_xfld (newId := "LookupError.__new__") (tl := tlL) (pe_valx bfL X.x30 r3 (by decide) rfl (pa_cons (pv 2) pa_nil))) (pa_cons (pe_xfld (newId := "LookupError.__new__") (tl := tlL) (pe_valx bfL X.x31 r3 (by decide) rfl (pa_cons (pv 2) pa_nil))) pa_nil)))))))
      (pss_one (ps_ret (pe_and (pe_cmpR (op_eqD hu) (pv 12) (pe_op op_rep (pe_lst (pa_cons (pv 2) pa_nil)) pe_int) (nomark _)) (pe_one (pe_cmpR op_eq (pe_xfld (newId := "ValueError.__new__") (tl := tlV) (pe_valx bfV X.x25 r3 (by decide) rfl (pa_cons (pv 2) (pa_cons (pv 3) pa_nil)))) (pv 3) (nomark _))))))))))))))), ?_⟩
    have hsz : (1000 : Nat) ≤ sizeLine := by decide
    refine ⟨_, rfl, c, cells, rfl, hc, fun dr H1 k1 hdr nd => ?_⟩
    refine ⟨_, rfl, _, _, rfl, rfl, (by show (0 : Int) ≤ 9 ∧ (9 : Int) ≤ 1000000 ∧ (10 : Int).natAbs < 2 ^ 64; decide), dr, _, rfl, (by decide), (by decide), hdr, fun a H2 a0 a1 hd2 e2 => ?_⟩
    refine ⟨_, rfl, _, _, rfl, rfl, (by show (0 : Int) ≤ 9 ∧ (9 : Int) ≤ 1000000 ∧ (10 : Int).natAbs < 2 ^ 64; decide), dr, _, rfl, (by decide), (by decide), hd2, fun b H3 b0 b1 hd3 e3 => ?_⟩
    refine ⟨_, _, rfl, ?_⟩
    refine ⟨_, rfl, dr, 33, rfl, (by decide), (by decide), hd3, fun st H4 s0 s1 hd4 e4 => ?_⟩
    dsimp only
    refine seq_by (fun σ' _ => ∃ v5 v6 v7 v9 v10 : Option V, σ' = [some (.ref c), some (.ref dr), some (.int a), some (.int b), some (.int st), v5, v6, v7, none, v9, v10, none, none]) ?_ (fun rest => ?_)
    · rintro σ' H5 ⟨v5, v6, v7, v9, v10, rfl⟩

      have hs1 : (100 : Nat) ≤ sizeLine := by decide
      refine rd_xf X.x0 (vs := [.int a]) (v := .int a) rfl List.mem_cons_self (by rfl) (fun Q q => ⟨_, rfl, q⟩) fun G1 m1 => ?_
      refine rd_xf X.x1 (vs := [.int a]) (v := .int a) rfl List.mem_cons_self (by rfl) (fun Q q => ⟨_, rfl, q⟩) fun G2 m2 => ?_
      refine rd_xf X.x2 (vs := [.int a]) (v := .int a) rfl List.mem_cons_self (by rfl) (fun Q q => ⟨_, rfl, q⟩) fun G3 m3 => ?_
      refine rd_xf X.x3 (vs := [.int a]) (v := .int a) rfl List.mem_cons_self (by rfl) (fun Q q => ⟨_, rfl, q⟩) fun G4 m4 => ?_
      refine rd_xf X.x7 (vs := [.int a]) (v := .int a) rfl List.mem_cons_self (by rfl) (fun Q q => ⟨_, rfl, q⟩) fun G5 m5 => ?_
      refine ⟨Nat.le_trans (by decide : 5 ≤ 100) hs1, fun p0 hp0 => ?_⟩
      have z0 : (upd G5 p0 (.lst [V.int a, V.int a, V.int a, V.int a, V.int a])) p0 = some (.lst (List.replicate 5 (.int a))) := upd_same
      refine ⟨_, rfl, ?_⟩
      refine rd_xf X.x8 (vs := [.int a]) (v := .int a) rfl List.mem_cons_self (by rfl) (fun Q q => ⟨_, rfl, q⟩) fun G6 m6 => ?_
      refine rd_xf X.x9 (vs := [.int a]) (v := .int a) rfl List.mem_cons_self (by rfl) (fun Q q => ⟨_, rfl, q⟩) fun G7 m7 => ?_
      refine rd_xf X.x12 (vs := [.int a]) (v := .int a) rfl List.mem_cons_self (by rfl) (fun Q q => ⟨_, rfl, q⟩) fun G8 m8 => ?_
      refine rd_xf X.x13 (vs := [.int a]) (v := .int a) rfl List.mem_cons_self (by rfl) (fun Q q => ⟨_, rfl, q⟩) fun G9 m9 => ?_
      refine ⟨Nat.le_trans (by decide : 4 ≤ 100) hs1, fun p1 hp1 => ?_⟩
      have y1 := (m9 _ _ (m8 _ _ (m7 _ _ (m6 _ _ z0))))
      have y1b := upd_keep (o := .lst [V.int a, V.int a, V.int a, V.int a]) hp1 _ _ y1
      refine ⟨p0, p1, _, _, rfl, rfl, y1b, upd_same, Nat.le_trans (by decide : 5 + 4 ≤ 100) hs1, fun r1 hr1 => ?_⟩
      have z1 : (upd (upd G9 p1 (.lst [V.int a, V.int a, V.int a, V.int a])) r1 (.lst (List.replicate 5 (V.int a) ++ [V.int a, V.int a, V.int a, V.int a]))) r1 = some (.lst (List.replicate 9 (V.int a))) := upd_same
      refine ⟨_, rfl, ?_⟩
      refine rd_xf X.x15 (vs := [.int a]) (v := .int a) rfl List.mem_cons_self (by rfl) (fun Q q => ⟨_, rfl, q⟩) fun G10 m10 => ?_
      refine rd_xf X.x16 (vs := [.int a]) (v := .int a) rfl List.mem_cons_self (by rfl) (fun Q q => ⟨_, rfl, q⟩) fun G11 m11 => ?_
      refine rd_xf X.x18 (vs := [.int a]) (v := .int a) rfl List.mem_cons_self (by rfl) (fun Q q => ⟨_, rfl, q⟩) fun G12 m12 => ?_
      refine rd_xf X.x19 (vs := [.int a]) (v := .int a) rfl List.mem_cons_self (by rfl) (fun Q q => ⟨_, rfl, q⟩) fun G13 m13 => ?_
      refine ⟨Nat.le_trans (by decide : 4 ≤ 100) hs1, fun p2 hp2 => ?_⟩
      have y2 := (m13 _ _ (m12 _ _ (m11 _ _ (m10 _ _ z1))))
      have y2b := upd_keep (o := .lst [V.int a, V.int a, V.int a, V.int a]) hp2 _ _ y2
      refine ⟨r1, p2, _, _, rfl, rfl, y2b, upd_same, Nat.le_trans (by decide : 9 + 4 ≤ 100) hs1, fun r2 hr2 => ?_⟩
      have z2 : (upd (upd G13 p2 (.lst [V.int a, V.int a, V.int a, V.int a])) r2 (.lst (List.replicate 9 (V.int a) ++ [V.int a, V.int a, V.int a, V.int a]))) r2 = some (.lst (List.replicate 13 (V.int a))) := upd_same
      refine ⟨_, rfl, ?_⟩
      refine rd_xf X.x22 (vs := [.int a]) (v := .int a) rfl List.mem_cons_self (by rfl) (fun Q q => ⟨_, rfl, q⟩) fun G14 m14 => ?_
      refine rd_xf X.x25 (vs := [.int a, .int b]) (v := .int a) rfl List.mem_cons_self (by rfl) (fun Q q => ⟨_, rfl, _, rfl, q⟩) fun G15 m15 => ?_
      refine rd_xf X.x26 (vs := [.int a]) (v := .int a) rfl List.mem_cons_self (by rfl) (fun Q q => ⟨_, rfl, q⟩) fun G16 m16 => ?_
      refine rd_xf X.x27 (vs := [.int a]) (v := .int a) rfl List.mem_cons_self (by rfl) (fun Q q => ⟨_, rfl, q⟩) fun G17 m17 => ?_
      refine ⟨Nat.le_trans (by decide : 4 ≤ 100) hs1, fun p3 hp3 => ?_⟩
      have y3 := (m17 _ _ (m16 _ _ (m15 _ _ (m14 _ _ z2))))
      have y3b := upd_keep (o := .lst [V.int a, V.int a, V.int a, V.int a]) hp3 _ _ y3
      refine ⟨r2, p3, _, _, rfl, rfl, y3b, upd_same, Nat.le_trans (by decide : 13 + 4 ≤ 100) hs1, fun r3 hr3 => ?_⟩
      have z3 : (upd (upd G17 p3 (.lst [V.int a, V.int a, V.int a, V.int a])) r3 (.lst (List.replicate 13 (V.int a) ++ [V.int a, V.int a, V.int a, V.int a]))) r3 = some (.lst (List.replicate 17 (V.int a))) := upd_same
      refine ⟨_, rfl, ?_⟩
      refine rd_xf X.x28 (vs := [.int a]) (v := .int a) rfl List.mem_cons_self (by rfl) (fun Q q => ⟨_, rfl, q⟩) fun G18 m18 => ?_
      refine rd_xf X.x29 (vs := [.int a]) (v := .int a) rfl List.mem_cons_self (by rfl) (fun Q q => ⟨_, rfl, q⟩) fun G19 m19 => ?_
      refine rd_xf X.x30 (vs := [.int a]) (v := .int a) rfl List.mem_cons_self (by rfl) (fun Q q => ⟨_, rfl, q⟩) fun G20 m20 => ?_
      refine rd_xf X.x31 (vs := [.int a]) (v := .int a) rfl List.mem_cons_self (by rfl) (fun Q q => ⟨_, rfl, q⟩) fun G21 m21 => ?_
      refine ⟨Nat.le_trans (by decide : 4 ≤ 100) hs1, fun p4 hp4 => ?_⟩
      have y4 := (m21 _ _ (m20 _ _ (m19 _ _ (m18 _ _ z3))))
      have y4b := upd_keep (o := .lst [V.int a, V.int a, V.int a, V.int a]) hp4 _ _ y4
      refine ⟨r3, p4, _, _, rfl, rfl, y4b, upd_same, Nat.le_trans (by decide : 17 + 4 ≤ 100) hs1, fun r4 hr4 => ?_⟩
      have z4 : (upd (upd G21 p4 (.lst [V.int a, V.int a, V.int a, V.int a])) r4 (.lst (List.replicate 17 (V.int a) ++ [V.int a, V.int a, V.int a, V.int a]))) r4 = some (.lst (List.replicate 21 (V.int a))) := upd_same
      refine ⟨_, rfl, _, rfl, Nat.le_trans (by decide : 1 ≤ 100) hs1, fun q hq => ?_⟩
      refine ⟨q, 21, _, rfl, rfl, upd_same, (by decide), (by decide), Nat.le_trans (by decide : 1 * 21 ≤ 100) hs1, fun t ht => ?_⟩
      have w1 := upd_keep (o := .lst [V.int a]) hq _ _ z4
      have w2 := upd_keep (o := .lst (List.replicate 21 (V.int a))) ht _ _ w1
      have sh : SeqAt.shaped (PyData.list (List.replicate 21 (.int a))) = true := by rfl
      refine ⟨.list (List.replicate 21 (.int a)), .list (List.replicate 21 (.int a)), .lst (SqL.of w2) (dp_rep a 21), .lst (xs := List.replicate 21 (V.int a)) (SqL.of upd_same) (dp_rep a 21), sh, sh, ?_⟩
      rw [SeqAt.eqv_refl _ (SeqAt.canLay_of_shaped sh)]
      refine ⟨true, rfl, ?_⟩
      refine rd_xf X.x25 (vs := [.int a, .int b]) (v := .int b) rfl (List.mem_cons_of_mem _ List.mem_cons_self) (by rfl) (fun Q q => ⟨_, rfl, _, rfl, q⟩) fun G9 m9 => ?_
      refine ⟨_, rfl, rfl, ?_⟩
      rw [decide_eq_true (rfl : V.int b = V.int b)]
      exact k _
    · refine ⟨33, rfl, (by decide), (by decide), ?_⟩
      refine for_range (fun i σ' _ => ∃ v5 v6 v7 v9 v10 : Option V, σ' = [some (.ref c), some (.ref dr), some (.int a), some (.int b), some (.int st), v5, v6, v7, none, v9, v10, none, none]) ⟨_, _, _, _, _, rfl⟩ ?_ (fun σ' H' w => rest σ' H' w)
      rintro i σ' H5 hi ⟨v5, v6, v7, v9, v10, rfl⟩
      refine ⟨_, rfl, _, rfl, _, _, rfl, rfl, .inl ⟨by decide, by decide⟩, _, _, rfl, rfl, _, _, rfl, rfl, (by show (0 : Int) < 33; decide), ?_⟩
      dsimp only
      obtain ⟨n, hn, en⟩ : ∃ n : Nat, n < 33 ∧ (st + 5 * (0 + (i : Int))) % 33 = (n : Int) := ⟨((st + 5 * (0 + (i : Int))) % 33).toNat, by omega, by omega⟩
      rw [en]
      refine ⟨(by show 0 ≤ sizeLine; decide), fun q hq => ?_⟩
      dsimp only
      refine seq_by (fun σ' H' => ∃ r : Addr, σ' = [some (.ref c), some (.ref dr), some (.int a), some (.int b), some (.int st), some (.int (0 + (i : Int))), some (.int (n : Nat)), some (.ref r), none, v9, v10, none, none] ∧ Rep K H' (.ref r) (Dn n)) ?_ (fun rest2 => ?_)
      · rintro σ' H6 ⟨r, rfl, rr⟩
        refine ⟨_, rfl, _, _, rfl, rfl, ?_⟩
        have e27 : (V.bl (decide ((n : Int) < 27))) = V.bl (decide (n < 27)) := by congr 1; exact decide_eq_decide.mpr (by omega)
        dsimp only
        rw [e27]
        refine ⟨33, rfl, (by decide), (by decide), fun D0 hD0 => ?_⟩
        refine lc_range (fun j H' => H' D0 = some (.lst ((List.range j).map fun j => V.bl (decide (j = n)))) ∧ Same H6 H') ⟨upd_same, upd_keep hD0⟩ ?_ ?_
        · rintro j H' hj ⟨e1, e2⟩
          refine ⟨rfl, ⟨_, rfl, _, rfl, rfl, _, e1, (by rw [List.length_map, List.length_range]; have : (33 : Int).toNat = 33 := rfl; omega), ?_, ?_⟩⟩
          · rw [upd_same, List.range_succ, List.map_append]
            have e : (V.bl (decide (V.int (0 + (j : Int)) = V.int (n : Int)))) = V.bl (decide (j = n)) := by
              congr 1
              exact decide_eq_decide.mpr ⟨fun h => by have := V.int.inj h; omega, fun h => by rw [h, Int.zero_add]⟩
            rw [e]
            rfl
          · intro b o hb
            rw [upd_ne (ne_of_none hb (by
              cases eq : H6 D0 with
              | none => rfl
              | some o2 => rw [hD0] at eq; cases eq))]
            exact e2 _ _ hb
        · rintro H7 ⟨e1, e2⟩
          have e1 : H7 D0 = some (.lst (flagsV n)) := e1
          refine ⟨rfl, fun p hp => ?_⟩
          have kp := upd_keep (o := .lst (wordsL.map V.str)) hp
          refine ⟨_, rfl, ?_⟩
          refine ix_of (.inl (SqL.of upd_same)) (v := .str (wordAt n)) (atI_nat ?_) ?_
          · have hl : n < wordsL.length := by show n < 33; exact hn
            rw [List.getElem?_map, List.getElem?_eq_getElem hl]
            show some (V.str wordsL[n]) = some (V.str (wordAt n))
            unfold wordAt
            rw [List.getD_eq_getElem?_getD, List.getElem?_eq_getElem hl]
            rfl
          refine ⟨(by show 2 ≤ sizeLine; decide), fun u hu => ?_⟩
          refine ⟨_, rfl, .inl ⟨rfl, _, SqL.of upd_same⟩, ?_⟩
          refine ⟨_, rfl, _, rfl, _, rfl, _, rfl, _, rfl, _, rfl, (by show 4 ≤ sizeLine; decide), fun t ht => ?_⟩
          have nut : u ≠ t := ne_of_none upd_same ht
          refine ⟨u, _, _, rfl, rfl, by rw [upd_ne nut]; exact upd_same, (by show 2 < sizeLine; decide), ?_⟩
          have nD : H7 D0 ≠ none := by rw [e1]; exact fun z => nomatch z
          have kall : ∀ b o, H7 b = some o → upd (upd (upd (upd H7 p (.lst (wordsL.map V.str))) u (.lst [.ref D0, .str (wordAt n)])) t (.lst [.bl (decide (n < 27)), .bl (decide (n < 27)), .bl (!decide (n < 27)), .bl (!decide (n < 27))])) u (.lst ([.ref D0, .str (wordAt n)] ++ [.ref t])) b = some o := fun b o hb => by
            have h1 := kp _ _ hb
            have h2 := upd_keep (o := .lst [.ref D0, .str (wordAt n)]) hu _ _ h1
            have h3 := upd_keep (o := .lst [.bl (decide (n < 27)), .bl (decide (n < 27)), .bl (!decide (n < 27)), .bl (!decide (n < 27))]) ht _ _ h2
            rw [upd_ne (ne_of_none h1 hu)]
            exact h3
          refine ⟨_, rfl, _, rfl, .ref r, .ref u, Dn n, rfl, rr.keep (fun b o hb => kall _ _ (e2 _ _ hb)), ?_, dn_depth n, fun H8 k8 => ?_⟩
          · exact rep_dn rfl upd_same (kall _ _ e1) (by rw [upd_ne nut.symm]; exact upd_same)
          · exact ⟨_, rfl, _, _, _, _, _, rfl⟩
      · have hh := hn
        refine ⟨_, rfl, _, rfl, _, rfl, n, _, _, rfl, hn, fun h1 h2 d hd => caught Y hn upd_same fun r H' rr => rest2 _ _ ⟨r, rfl, rr⟩, fun h1 => ?_⟩
        refine ⟨_, rfl, _, rfl, _, rfl, n, _, _, rfl, hn, fun h1 h2 d hd => caught Y hn upd_same fun r H' rr => rest2 _ _ ⟨r, rfl, rr⟩, fun h2 => ?_⟩
        exact ⟨_, rfl, _, rfl, _, rfl, n, _, _, rfl, hn, fun h1 h2 d hd => caught Y hn upd_same fun r H' rr => rest2 _ _ ⟨r, rfl, rr⟩, fun h3 => (by omega)⟩
end
end X3
namespace X3
open PySem PySem.Spec PyProof.Rows L2 ClX He
def dB : DefD := ⟨("BoughError", some "__init__"), "__init__", "BoughError.__init__", defArgs (clsDef (top 1)), defBody (clsDef (top 1)), defScope (clsDef (top 1)), [], []⟩
def dM : DefD := ⟨("Missing", some "__init__"), "__init__", "Missing.__init__", defArgs (clsDef (top 2)), defBody (clsDef (top 2)), defScope (clsDef (top 2)), [], []⟩
def d0 : DefD := ⟨("BadName", some "__init__"), "__init__", "BadName.__init__", defArgs (clsDef (top 3)), defBody (clsDef (top 3)), defScope (clsDef (top 3)), [], []⟩
def d1 : DefD := ⟨("BadOperation", some "__init__"), "__init__", "BadOperation.__init__", defArgs (clsDef (top 4)), defBody (clsDef (top 4)), defScope (clsDef (top 4)), [], []⟩
def d2 : DefD := ⟨("BadTree", some "__init__"), "__init__", "BadTree.__init__", defArgs (clsDef (top 5)), defBody (clsDef (top 5)), defScope (clsDef (top 5)), [], []⟩
def d3 : DefD := ⟨("BadCount", some "__init__"), "__init__", "BadCount.__init__", defArgs (clsDef (top 6)), defBody (clsDef (top 6)), defScope (clsDef (top 6)), [], []⟩
def d4 : DefD := ⟨("BadLeaf", some "__init__"), "__init__", "BadLeaf.__init__", defArgs (clsDef (top 7)), defBody (clsDef (top 7)), defScope (clsDef (top 7)), [], []⟩
def d5 : DefD := ⟨("BadPlace", some "__init__"), "__init__", "BadPlace.__init__", defArgs (clsDef (top 8)), defBody (clsDef (top 8)), defScope (clsDef (top 8)), [], []⟩
def d6 : DefD := ⟨("BadMany", some "__init__"), "__init__", "BadMany.__init__", defArgs (clsDef (top 9)), defBody (clsDef (top 9)), defScope (clsDef (top 9)), [], []⟩
def d7 : DefD := ⟨("BadText", some "__init__"), "__init__", "BadText.__init__", defArgs (clsDef (top 10)), defBody (clsDef (top 10)), defScope (clsDef (top 10)), [], []⟩
def d8 : DefD := ⟨("Uneven", some "__init__"), "__init__", "Uneven.__init__", defArgs (clsDef (top 11)), defBody (clsDef (top 11)), defScope (clsDef (top 11)), [], []⟩
def d9 : DefD := ⟨("Strange", some "__init__"), "__init__", "Strange.__init__", defArgs (clsDef (top 12)), defBody (clsDef (top 12)), defScope (clsDef (top 12)), [], []⟩
def d10 : DefD := ⟨("Idle", some "__init__"), "__init__", "Idle.__init__", defArgs (clsDef (top 13)), defBody (clsDef (top 13)), defScope (clsDef (top 13)), [], []⟩
def d11 : DefD := ⟨("Bare", some "__init__"), "__init__", "Bare.__init__", defArgs (clsDef (top 14)), defBody (clsDef (top 14)), defScope (clsDef (top 14)), [], []⟩
def d12 : DefD := ⟨("Taken", some "__init__"), "__init__", "Taken.__init__", defArgs (clsDef (top 15)), defBody (clsDef (top 15)), defScope (clsDef (top 15)), [], []⟩
def d13 : DefD := ⟨("InUse", some "__init__"), "__init__", "InUse.__init__", defArgs (clsDef (top 16)), defBody (clsDef (top 16)), defScope (clsDef (top 16)), [], []⟩
def d14 : DefD := ⟨("Full", some "__init__"), "__init__", "Full.__init__", defArgs (clsDef (top 17)), defBody (clsDef (top 17)), defScope (clsDef (top 17)), [], []⟩
def d15 : DefD := ⟨("Lacking", some "__init__"), "__init__", "Lacking.__init__", defArgs (clsDef (top 18)), defBody (clsDef (top 18)), defScope (clsDef (top 18)), [], []⟩
def d16 : DefD := ⟨("Unlike", some "__init__"), "__init__", "Unlike.__init__", defArgs (clsDef (top 19)), defBody (clsDef (top 19)), defScope (clsDef (top 19)), [], []⟩
def d17 : DefD := ⟨("Unjoined", some "__init__"), "__init__", "Unjoined.__init__", defArgs (clsDef (top 20)), defBody (clsDef (top 20)), defScope (clsDef (top 20)), [], []⟩
def d18 : DefD := ⟨("NotKept", some "__init__"), "__init__", "NotKept.__init__", defArgs (clsDef (top 21)), defBody (clsDef (top 21)), defScope (clsDef (top 21)), [], []⟩
def d19 : DefD := ⟨("Breaks", some "__init__"), "__init__", "Breaks.__init__", defArgs (clsDef (top 22)), defBody (clsDef (top 22)), defScope (clsDef (top 22)), [], []⟩
def d20 : DefD := ⟨("Wide", some "__init__"), "__init__", "Wide.__init__", defArgs (clsDef (top 23)), defBody (clsDef (top 23)), defScope (clsDef (top 23)), [], []⟩
def d21 : DefD := ⟨("NotTwos", some "__init__"), "__init__", "NotTwos.__init__", defArgs (clsDef (top 24)), defBody (clsDef (top 24)), defScope (clsDef (top 24)), [], []⟩
def d22 : DefD := ⟨("BadRow", some "__init__"), "__init__", "BadRow.__init__", defArgs (clsDef (top 25)), defBody (clsDef (top 25)), defScope (clsDef (top 25)), [], []⟩
def d23 : DefD := ⟨("BadPlaces", some "__init__"), "__init__", "BadPlaces.__init__", defArgs (clsDef (top 26)), defBody (clsDef (top 26)), defScope (clsDef (top 26)), [], []⟩
def d24 : DefD := ⟨("BadDeed", some "__init__"), "__init__", "BadDeed.__init__", defArgs (clsDef (top 27)), defBody (clsDef (top 27)), defScope (clsDef (top 27)), [], []⟩
def d25 : DefD := ⟨("Stopped", some "__init__"), "__init__", "Stopped.__init__", defArgs (clsDef (top 28)), defBody (clsDef (top 28)), defScope (clsDef (top 28)), [], []⟩
def d26 : DefD := ⟨("BadPage", some "__init__"), "__init__", "BadPage.__init__", defArgs (clsDef (top 29)), defBody (clsDef (top 29)), defScope (clsDef (top 29)), [], []⟩
def d27 : DefD := ⟨("NoOperation", some "__init__"), "__init__", "NoOperation.__init__", defArgs (clsDef (top 30)), defBody (clsDef (top 30)), defScope (clsDef (top 30)), [], []⟩
def d28 : DefD := ⟨("NoRule", some "__init__"), "__init__", "NoRule.__init__", defArgs (clsDef (top 31)), defBody (clsDef (top 31)), defScope (clsDef (top 31)), [], []⟩
def d29 : DefD := ⟨("NoKind", some "__init__"), "__init__", "NoKind.__init__", defArgs (clsDef (top 32)), defBody (clsDef (top 32)), defScope (clsDef (top 32)), [], []⟩
def d30 : DefD := ⟨("NoBridge", some "__init__"), "__init__", "NoBridge.__init__", defArgs (clsDef (top 33)), defBody (clsDef (top 33)), defScope (clsDef (top 33)), [], []⟩
def d31 : DefD := ⟨("NoWatch", some "__init__"), "__init__", "NoWatch.__init__", defArgs (clsDef (top 34)), defBody (clsDef (top 34)), defScope (clsDef (top 34)), [], []⟩
def d32 : DefD := ⟨("NothingLeft", some "__init__"), "__init__", "NothingLeft.__init__", defArgs (clsDef (top 35)), defBody (clsDef (top 35)), defScope (clsDef (top 35)), [], []⟩
def df_bag : DefD := ⟨("_law_bag", none), "_law_bag", "_law_bag", defArgs (top 37), defBody (top 37), defScope (top 37), [], []⟩
def df_pull : DefD := ⟨("_law_pull", none), "_law_pull", "_law_pull", defArgs (top 38), defBody (top 38), defScope (top 38), [], []⟩
def df_same : DefD := ⟨("_law_same", none), "_law_same", "_law_same", defArgs (top 39), defBody (top 39), defScope (top 39), [], []⟩
def df_flags : DefD := ⟨("_law_flags", none), "_law_flags", "_law_flags", defArgs (top 40), defBody (top 40), defScope (top 40), [], []⟩
def df_words : DefD := ⟨("_law_words", none), "_law_words", "_law_words", defArgs (top 41), defBody (top 41), defScope (top 41), [], []⟩
def df_early : DefD := ⟨("_law_early", none), "_law_early", "_law_early", defArgs (top 42), defBody (top 42), defScope (top 42), [], []⟩
def df_middle : DefD := ⟨("_law_middle", none), "_law_middle", "_law_middle", defArgs (top 43), defBody (top 43), defScope (top 43), [], []⟩
def df_late : DefD := ⟨("_law_late", none), "_law_late", "_law_late", defArgs (top 44), defBody (top 44), defScope (top 44), [], []⟩
def df_kinds_of : DefD := ⟨("_law_kinds_of", none), "_law_kinds_of", "_law_kinds_of", defArgs (top 45), defBody (top 45), defScope (top 45), [], []⟩
def df_law : DefD := ⟨("law", none), "law", "law", defArgs (top 46), defBody (top 46), defScope (top 46), [], []⟩
def fnL : List DefD := [dB, dM, d0, d1, d2, d3, d4, d5, d6, d7, d8, d9] ++ [d10, d11, d12, d13, d14, d15, d16, d17, d18, d19, d20, d21] ++ [d22, d23, d24, d25, d26, d27, d28, d29, d30, d31, d32, df_bag] ++ [df_pull, df_same, df_flags, df_words, df_early, df_middle, df_late, df_kinds_of, df_law]
def Cn (K : PySem.W.Frag) (i : Nat) : Addr := ga K (wordsL.getD i default)
def exClsV (K : PySem.W.Frag) : Bool := clsB K "ValueError.__new__" tlV ["name"] "BadName" && clsB K "ValueError.__new__" tlV ["at"] "BadOperation" && clsB K "ValueError.__new__" tlV ["at"] "BadTree" && clsB K "ValueError.__new__" tlV ["at"] "BadCount" && clsB K "ValueError.__new__" tlV [] "BadLeaf" && clsB K "ValueError.__new__" tlV [] "BadPlace" && clsB K "ValueError.__new__" tlV [] "BadMany" && clsB K "ValueError.__new__" tlV ["at"] "BadText" && clsB K "ValueError.__new__" tlV ["at"] "Uneven" && clsB K "ValueError.__new__" tlV ["operation"] "Strange" && clsB K "ValueError.__new__" tlV [] "Idle" && clsB K "ValueError.__new__" tlV [] "Bare" && clsB K "ValueError.__new__" tlV ["name"] "Taken" && clsB K "ValueError.__new__" tlV ["name"] "InUse" && clsB K "ValueError.__new__" tlV [] "Full" && clsB K "ValueError.__new__" tlV ["operation"] "Lacking" && clsB K "ValueError.__new__" tlV ["operation"] "Unlike" && clsB K "ValueError.__new__" tlV [] "Unjoined" && clsB K "ValueError.__new__" tlV ["name"] "NotKept" && clsB K "ValueError.__new__" tlV ["name"] "Breaks" && clsB K "ValueError.__new__" tlV [] "Wide" && clsB K "ValueError.__new__" tlV [] "NotTwos" && clsB K "ValueError.__new__" tlV ["at"] "BadRow" && clsB K "ValueError.__new__" tlV [] "BadPlaces" && clsB K "ValueError.__new__" tlV [] "BadDeed" && clsB K "ValueError.__new__" tlV ["at", "why"] "Stopped" && clsB K "ValueError.__new__" tlV ["at"] "BadPage"
def exClsL (K : PySem.W.Frag) : Bool := clsB K "LookupError.__new__" tlL ["operation"] "NoOperation" && clsB K "LookupError.__new__" tlL ["name"] "NoRule" && clsB K "LookupError.__new__" tlL ["name"] "NoKind" && clsB K "LookupError.__new__" tlL ["name"] "NoBridge" && clsB K "LookupError.__new__" tlL ["name"] "NoWatch" && clsB K "LookupError.__new__" tlL [] "NothingLeft"
def allI (p : Nat → Bool) : Bool := (List.range 33).all p
theorem allI_ok {p : Nat → Bool} (h : allI p = true) {i : Nat} (hi : i < 33) : p i = true := List.all_eq_true.mp h i (List.mem_range.mpr hi)
def exKit (K : PySem.W.Frag) : Bool := allI fun i => excCB K (Cn K i) && ((allI fun j => decide (PySem.W.kitOne K (.ref (Cn K i)) (.ref (Cn K j)) = some (decide (j = i)))) && (decide (PySem.W.kitOne K (.ref (Cn K i)) (.ref (ga K "BoughError")) = some (decide (i < 27))) && (decide (PySem.W.kitOne K (.ref (Cn K i)) (.type "ValueError") = some (decide (i < 27))) &&
  (decide (PySem.W.kitOne K (.ref (Cn K i)) (.ref (ga K "Missing")) = some (!decide (i < 27))) && (decide (PySem.W.kitOne K (.ref (Cn K i)) (.type "LookupError") = some (!decide (i < 27))) && (decide (PySem.W.exmOne K (.ref (Cn K i)) (.ref (ga K "BoughError")) = some (decide (i < 27))) && decide (PySem.W.exmOne K (.ref (Cn K i)) (.ref (ga K "Missing")) = some (!decide (i < 27)))))))))
def exNames (K : PySem.W.Frag) : Bool := ((["isinstance", "bool", "int", "str", "list", "tuple", "len", "all", "range", "ValueError", "LookupError"] : List Str).all fun x => freeB K x) && ((["_law_bag", "_law_pull", "_law_same", "_law_flags", "_law_words", "_law_early", "_law_middle", "_law_late", "_law_kinds_of", "law"] : List Str).all fun x => gloB K x)
def exAll (K : PySem.W.Frag) : Bool := (baseB K "BoughError" && baseB K "Missing") && (exClsV K && (exClsL K && (exKit K && exNames K)))
section
variable {P : Program} {w : World} {K : PySem.W.Frag} {h base : Heap} {mg : Str → Option Value}
theorem facts {f : Addr} (X : K.In h) (G : h.Ns mainGlobals mg) (hfa : mg ("law" : Str) = some (.ref f)) (c : SaysM exAll fnL K) :
    ∃ fd : FuncData, (∀ (s : Shared) (v : Value), BindsTo s fd ⟨[v], []⟩ [("_law_script", v)]) ∧ ∀ base : Heap, FnOk P w K mg base (L2.CX P w) 5 f fd ["_law_script"] (spLaw K) := by
  obtain ⟨m0, m⟩ := ba c.more
  obtain ⟨mB, mM⟩ := ba m0
  obtain ⟨mV, m⟩ := ba m
  obtain ⟨mL, m⟩ := ba m
  obtain ⟨mK, m⟩ := ba m
  obtain ⟨mF, mG⟩ := ba m
  have free : ∀ x : Str, x ∈ (["isinstance", "bool", "int", "str", "list", "tuple", "len", "all", "range", "ValueError", "LookupError"] : List Str) → mg x = none := fun x hx => freeB_ok X G (List.all_eq_true.mp mF x hx)
  have glo : ∀ x : Str, x ∈ (["_law_bag", "_law_pull", "_law_same", "_law_flags", "_law_words", "_law_early", "_law_middle", "_law_late", "_law_kinds_of", "law"] : List Str) → mg x = some (.ref (ga K x)) := fun x hx => gloB_ok X G (List.all_eq_true.mp mG x hx)
  have fr_isinstance := free "isinstance" (by decide)
  have fr_bool := free "bool" (by decide)
  have fr_int := free "int" (by decide)
  have fr_str := free "str" (by decide)
  have fr_list := free "list" (by decide)
  have fr_tuple := free "tuple" (by decide)
  have fr_len := free "len" (by decide)
  have fr_all := free "all" (by decide)
  have fr_range := free "range" (by decide)
  have fr_ValueError := free "ValueError" (by decide)
  have fr_LookupError := free "LookupError" (by decide)
  have gl_bag := glo "_law_bag" (by decide)
  have gl_pull := glo "_law_pull" (by decide)
  have gl_same := glo "_law_same" (by decide)
  have gl_flags := glo "_law_flags" (by decide)
  have gl_words := glo "_law_words" (by decide)
  have gl_early := glo "_law_early" (by decide)
  have gl_middle := glo "_law_middle" (by decide)
  have gl_late := glo "_law_late" (by decide)
  have gl_kinds_of := glo "_law_kinds_of" (by decide)
  have gl_law := glo "law" (by decide)
  obtain ⟨u26_, c_BadPage⟩ := ba mV
  obtain ⟨u25_, c_Stopped⟩ := ba u26_
  obtain ⟨u24_, c_BadDeed⟩ := ba u25_
  obtain ⟨u23_, c_BadPlaces⟩ := ba u24_
  obtain ⟨u22_, c_BadRow⟩ := ba u23_
  obtain ⟨u21_, c_NotTwos⟩ := ba u22_
  obtain ⟨u20_, c_Wide⟩ := ba u21_
  obtain ⟨u19_, c_Breaks⟩ := ba u20_
  obtain ⟨u18_, c_NotKept⟩ := ba u19_
  obtain ⟨u17_, c_Unjoined⟩ := ba u18_
  obtain ⟨u16_, c_Unlike⟩ := ba u17_
  obtain ⟨u15_, c_Lacking⟩ := ba u16_
  obtain ⟨u14_, c_Full⟩ := ba u15_
  obtain ⟨u13_, c_InUse⟩ := ba u14_
  obtain ⟨u12_, c_Taken⟩ := ba u13_
  obtain ⟨u11_, c_Bare⟩ := ba u12_
  obtain ⟨u10_, c_Idle⟩ := ba u11_
  obtain ⟨u9_, c_Strange⟩ := ba u10_
  obtain ⟨u8_, c_Uneven⟩ := ba u9_
  obtain ⟨u7_, c_BadText⟩ := ba u8_
  obtain ⟨u6_, c_BadMany⟩ := ba u7_
  obtain ⟨u5_, c_BadPlace⟩ := ba u6_
  obtain ⟨u4_, c_BadLeaf⟩ := ba u5_
  obtain ⟨u3_, c_BadCount⟩ := ba u4_
  obtain ⟨u2_, c_BadTree⟩ := ba u3_
  obtain ⟨u1_, c_BadOperation⟩ := ba u2_
  have c_BadName := u1_
  obtain ⟨t5_, c_NothingLeft⟩ := ba mL
  obtain ⟨t4_, c_NoWatch⟩ := ba t5_
  obtain ⟨t3_, c_NoBridge⟩ := ba t4_
  obtain ⟨t2_, c_NoKind⟩ := ba t3_
  obtain ⟨t1_, c_NoRule⟩ := ba t2_
  have c_NoOperation := t1_
  obtain ⟨fd_bag, F_bag⟩ := c.def_ 35 (d := df_bag) rfl
  obtain ⟨fd_pull, F_pull⟩ := c.def_ 36 (d := df_pull) rfl
  obtain ⟨fd_same, F_same⟩ := c.def_ 37 (d := df_same) rfl
  obtain ⟨fd_flags, F_flags⟩ := c.def_ 38 (d := df_flags) rfl
  obtain ⟨fd_words, F_words⟩ := c.def_ 39 (d := df_words) rfl
  obtain ⟨fd_early, F_early⟩ := c.def_ 40 (d := df_early) rfl
  obtain ⟨fd_middle, F_middle⟩ := c.def_ 41 (d := df_middle) rfl
  obtain ⟨fd_late, F_late⟩ := c.def_ 42 (d := df_late) rfl
  obtain ⟨fd_kinds_of, F_kinds_of⟩ := c.def_ 43 (d := df_kinds_of) rfl
  obtain ⟨fd_law, F_law⟩ := c.def_ 44 (d := df_law) rfl
  obtain ⟨fdB, FB⟩ := c.def_ 0 (d := dB) rfl
  obtain ⟨fdM, FM⟩ := c.def_ 1 (d := dM) rfl
  obtain ⟨fd0, F0⟩ := c.def_ 2 (d := d0) rfl
  obtain ⟨fd1, F1⟩ := c.def_ 3 (d := d1) rfl
  obtain ⟨fd2, F2⟩ := c.def_ 4 (d := d2) rfl
  obtain ⟨fd3, F3⟩ := c.def_ 5 (d := d3) rfl
  obtain ⟨fd4, F4⟩ := c.def_ 6 (d := d4) rfl
  obtain ⟨fd5, F5⟩ := c.def_ 7 (d := d5) rfl
  obtain ⟨fd6, F6⟩ := c.def_ 8 (d := d6) rfl
  obtain ⟨fd7, F7⟩ := c.def_ 9 (d := d7) rfl
  obtain ⟨fd8, F8⟩ := c.def_ 10 (d := d8) rfl
  obtain ⟨fd9, F9⟩ := c.def_ 11 (d := d9) rfl
  obtain ⟨fd10, F10⟩ := c.def_ 12 (d := d10) rfl
  obtain ⟨fd11, F11⟩ := c.def_ 13 (d := d11) rfl
  obtain ⟨fd12, F12⟩ := c.def_ 14 (d := d12) rfl
  obtain ⟨fd13, F13⟩ := c.def_ 15 (d := d13) rfl
  obtain ⟨fd14, F14⟩ := c.def_ 16 (d := d14) rfl
  obtain ⟨fd15, F15⟩ := c.def_ 17 (d := d15) rfl
  obtain ⟨fd16, F16⟩ := c.def_ 18 (d := d16) rfl
  obtain ⟨fd17, F17⟩ := c.def_ 19 (d := d17) rfl
  obtain ⟨fd18, F18⟩ := c.def_ 20 (d := d18) rfl
  obtain ⟨fd19, F19⟩ := c.def_ 21 (d := d19) rfl
  obtain ⟨fd20, F20⟩ := c.def_ 22 (d := d20) rfl
  obtain ⟨fd21, F21⟩ := c.def_ 23 (d := d21) rfl
  obtain ⟨fd22, F22⟩ := c.def_ 24 (d := d22) rfl
  obtain ⟨fd23, F23⟩ := c.def_ 25 (d := d23) rfl
  obtain ⟨fd24, F24⟩ := c.def_ 26 (d := d24) rfl
  obtain ⟨fd25, F25⟩ := c.def_ 27 (d := d25) rfl
  obtain ⟨fd26, F26⟩ := c.def_ 28 (d := d26) rfl
  obtain ⟨fd27, F27⟩ := c.def_ 29 (d := d27) rfl
  obtain ⟨fd28, F28⟩ := c.def_ 30 (d := d28) rfl
  obtain ⟨fd29, F29⟩ := c.def_ 31 (d := d29) rfl
  obtain ⟨fd30, F30⟩ := c.def_ 32 (d := d30) rfl
  obtain ⟨fd31, F31⟩ := c.def_ 33 (d := d31) rfl
  obtain ⟨fd32, F32⟩ := c.def_ 34 (d := d32) rfl
  have e := hfa.symm.trans gl_law
  cases e
  refine ⟨fd_law, ?_, fun base => ?_⟩
  · have b := FunD.bindsA (ps := ["_law_script"]) F_law fun _ _ _ _ _ _ us hl => match us, hl with | [_], _ => rfl
    exact fun s v => b s [v] rfl
  have IB : BaseI P w K mg base "ValueError.__new__" tlV "BoughError" := base_of X G mB (by decide +kernel) (ok_base FB bfV fr_ValueError bt_VE (by decide +kernel) (by decide +kernel) rfl) (FB.bindsN fun _ _ _ _ _ _ us hl => match us, hl with | [_, _], _ => rfl)
  have IM : BaseI P w K mg base "LookupError.__new__" tlL "Missing" := base_of X G mM (by decide +kernel) (ok_base FM bfL fr_LookupError bt_LE (by decide +kernel) (by decide +kernel) rfl) (FM.bindsN fun _ _ _ _ _ _ us hl => match us, hl with | [_, _], _ => rfl)
  have X0 : XCls P w K mg base "ValueError.__new__" tlV "BadName" (Cn K 0) "BadName" ["name"] := cls_of X G c_BadName (ok_x1 F0 rfl IB bfV (by decide +kernel) (by decide +kernel)) (F0.bindsN fun _ _ _ _ _ _ us hl => match us, hl with | [_, _], _ => rfl)
  have X1 : XCls P w K mg base "ValueError.__new__" tlV "BadOperation" (Cn K 1) "BadOperation" ["at"] := cls_of X G c_BadOperation (ok_x1 F1 rfl IB bfV (by decide +kernel) (by decide +kernel)) (F1.bindsN fun _ _ _ _ _ _ us hl => match us, hl with | [_, _], _ => rfl)
  have X2 : XCls P w K mg base "ValueError.__new__" tlV "BadTree" (Cn K 2) "BadTree" ["at"] := cls_of X G c_BadTree (ok_x1 F2 rfl IB bfV (by decide +kernel) (by decide +kernel)) (F2.bindsN fun _ _ _ _ _ _ us hl => match us, hl with | [_, _], _ => rfl)
  have X3 : XCls P w K mg base "ValueError.__new__" tlV "BadCount" (Cn K 3) "BadCount" ["at"] := cls_of X G c_BadCount (ok_x1 F3 rfl IB bfV (by decide +kernel) (by decide +kernel)) (F3.bindsN fun _ _ _ _ _ _ us hl => match us, hl with | [_, _], _ => rfl)
  have X4 : XCls P w K mg base "ValueError.__new__" tlV "BadLeaf" (Cn K 4) "BadLeaf" [] := cls_of X G c_BadLeaf (ok_x0 F4 rfl IB) (F4.bindsN fun _ _ _ _ _ _ us hl => match us, hl with | [_], _ => rfl)
  have X5 : XCls P w K mg base "ValueError.__new__" tlV "BadPlace" (Cn K 5) "BadPlace" [] := cls_of X G c_BadPlace (ok_x0 F5 rfl IB) (F5.bindsN fun _ _ _ _ _ _ us hl => match us, hl with | [_], _ => rfl)
  have X6 : XCls P w K mg base "ValueError.__new__" tlV "BadMany" (Cn K 6) "BadMany" [] := cls_of X G c_BadMany (ok_x0 F6 rfl IB) (F6.bindsN fun _ _ _ _ _ _ us hl => match us, hl with | [_], _ => rfl)
  have X7 : XCls P w K mg base "ValueError.__new__" tlV "BadText" (Cn K 7) "BadText" ["at"] := cls_of X G c_BadText (ok_x1 F7 rfl IB bfV (by decide +kernel) (by decide +kernel)) (F7.bindsN fun _ _ _ _ _ _ us hl => match us, hl with | [_, _], _ => rfl)
  have X8 : XCls P w K mg base "ValueError.__new__" tlV "Uneven" (Cn K 8) "Uneven" ["at"] := cls_of X G c_Uneven (ok_x1 F8 rfl IB bfV (by decide +kernel) (by decide +kernel)) (F8.bindsN fun _ _ _ _ _ _ us hl => match us, hl with | [_, _], _ => rfl)
  have X9 : XCls P w K mg base "ValueError.__new__" tlV "Strange" (Cn K 9) "Strange" ["operation"] := cls_of X G c_Strange (ok_x1 F9 rfl IB bfV (by decide +kernel) (by decide +kernel)) (F9.bindsN fun _ _ _ _ _ _ us hl => match us, hl with | [_, _], _ => rfl)
  have X10 : XCls P w K mg base "ValueError.__new__" tlV "Idle" (Cn K 10) "Idle" [] := cls_of X G c_Idle (ok_x0 F10 rfl IB) (F10.bindsN fun _ _ _ _ _ _ us hl => match us, hl with | [_], _ => rfl)
  have X11 : XCls P w K mg base "ValueError.__new__" tlV "Bare" (Cn K 11) "Bare" [] := cls_of X G c_Bare (ok_x0 F11 rfl IB) (F11.bindsN fun _ _ _ _ _ _ us hl => match us, hl with | [_], _ => rfl)
  have X12 : XCls P w K mg base "ValueError.__new__" tlV "Taken" (Cn K 12) "Taken" ["name"] := cls_of X G c_Taken (ok_x1 F12 rfl IB bfV (by decide +kernel) (by decide +kernel)) (F12.bindsN fun _ _ _ _ _ _ us hl => match us, hl with | [_, _], _ => rfl)
  have X13 : XCls P w K mg base "ValueError.__new__" tlV "InUse" (Cn K 13) "InUse" ["name"] := cls_of X G c_InUse (ok_x1 F13 rfl IB bfV (by decide +kernel) (by decide +kernel)) (F13.bindsN fun _ _ _ _ _ _ us hl => match us, hl with | [_, _], _ => rfl)
  have X14 : XCls P w K mg base "ValueError.__new__" tlV "Full" (Cn K 14) "Full" [] := cls_of X G c_Full (ok_x0 F14 rfl IB) (F14.bindsN fun _ _ _ _ _ _ us hl => match us, hl with | [_], _ => rfl)
  have X15 : XCls P w K mg base "ValueError.__new__" tlV "Lacking" (Cn K 15) "Lacking" ["operation"] := cls_of X G c_Lacking (ok_x1 F15 rfl IB bfV (by decide +kernel) (by decide +kernel)) (F15.bindsN fun _ _ _ _ _ _ us hl => match us, hl with | [_, _], _ => rfl)
  have X16 : XCls P w K mg base "ValueError.__new__" tlV "Unlike" (Cn K 16) "Unlike" ["operation"] := cls_of X G c_Unlike (ok_x1 F16 rfl IB bfV (by decide +kernel) (by decide +kernel)) (F16.bindsN fun _ _ _ _ _ _ us hl => match us, hl with | [_, _], _ => rfl)
  have X17 : XCls P w K mg base "ValueError.__new__" tlV "Unjoined" (Cn K 17) "Unjoined" [] := cls_of X G c_Unjoined (ok_x0 F17 rfl IB) (F17.bindsN fun _ _ _ _ _ _ us hl => match us, hl with | [_], _ => rfl)
  have X18 : XCls P w K mg base "ValueError.__new__" tlV "NotKept" (Cn K 18) "NotKept" ["name"] := cls_of X G c_NotKept (ok_x1 F18 rfl IB bfV (by decide +kernel) (by decide +kernel)) (F18.bindsN fun _ _ _ _ _ _ us hl => match us, hl with | [_, _], _ => rfl)
  have X19 : XCls P w K mg base "ValueError.__new__" tlV "Breaks" (Cn K 19) "Breaks" ["name"] := cls_of X G c_Breaks (ok_x1 F19 rfl IB bfV (by decide +kernel) (by decide +kernel)) (F19.bindsN fun _ _ _ _ _ _ us hl => match us, hl with | [_, _], _ => rfl)
  have X20 : XCls P w K mg base "ValueError.__new__" tlV "Wide" (Cn K 20) "Wide" [] := cls_of X G c_Wide (ok_x0 F20 rfl IB) (F20.bindsN fun _ _ _ _ _ _ us hl => match us, hl with | [_], _ => rfl)
  have X21 : XCls P w K mg base "ValueError.__new__" tlV "NotTwos" (Cn K 21) "NotTwos" [] := cls_of X G c_NotTwos (ok_x0 F21 rfl IB) (F21.bindsN fun _ _ _ _ _ _ us hl => match us, hl with | [_], _ => rfl)
  have X22 : XCls P w K mg base "ValueError.__new__" tlV "BadRow" (Cn K 22) "BadRow" ["at"] := cls_of X G c_BadRow (ok_x1 F22 rfl IB bfV (by decide +kernel) (by decide +kernel)) (F22.bindsN fun _ _ _ _ _ _ us hl => match us, hl with | [_, _], _ => rfl)
  have X23 : XCls P w K mg base "ValueError.__new__" tlV "BadPlaces" (Cn K 23) "BadPlaces" [] := cls_of X G c_BadPlaces (ok_x0 F23 rfl IB) (F23.bindsN fun _ _ _ _ _ _ us hl => match us, hl with | [_], _ => rfl)
  have X24 : XCls P w K mg base "ValueError.__new__" tlV "BadDeed" (Cn K 24) "BadDeed" [] := cls_of X G c_BadDeed (ok_x0 F24 rfl IB) (F24.bindsN fun _ _ _ _ _ _ us hl => match us, hl with | [_], _ => rfl)
  have X25 : XCls P w K mg base "ValueError.__new__" tlV "Stopped" (Cn K 25) "Stopped" ["at", "why"] := cls_of X G c_Stopped (ok_x2 F25 rfl IB bfV (by decide +kernel) (by decide +kernel) (by decide +kernel) (by decide +kernel) (by decide +kernel)) (F25.bindsN fun _ _ _ _ _ _ us hl => match us, hl with | [_, _, _], _ => rfl)
  have X26 : XCls P w K mg base "ValueError.__new__" tlV "BadPage" (Cn K 26) "BadPage" ["at"] := cls_of X G c_BadPage (ok_x1 F26 rfl IB bfV (by decide +kernel) (by decide +kernel)) (F26.bindsN fun _ _ _ _ _ _ us hl => match us, hl with | [_, _], _ => rfl)
  have X27 : XCls P w K mg base "LookupError.__new__" tlL "NoOperation" (Cn K 27) "NoOperation" ["operation"] := cls_of X G c_NoOperation (ok_x1 F27 rfl IM bfL (by decide +kernel) (by decide +kernel)) (F27.bindsN fun _ _ _ _ _ _ us hl => match us, hl with | [_, _], _ => rfl)
  have X28 : XCls P w K mg base "LookupError.__new__" tlL "NoRule" (Cn K 28) "NoRule" ["name"] := cls_of X G c_NoRule (ok_x1 F28 rfl IM bfL (by decide +kernel) (by decide +kernel)) (F28.bindsN fun _ _ _ _ _ _ us hl => match us, hl with | [_, _], _ => rfl)
  have X29 : XCls P w K mg base "LookupError.__new__" tlL "NoKind" (Cn K 29) "NoKind" ["name"] := cls_of X G c_NoKind (ok_x1 F29 rfl IM bfL (by decide +kernel) (by decide +kernel)) (F29.bindsN fun _ _ _ _ _ _ us hl => match us, hl with | [_, _], _ => rfl)
  have X30 : XCls P w K mg base "LookupError.__new__" tlL "NoBridge" (Cn K 30) "NoBridge" ["name"] := cls_of X G c_NoBridge (ok_x1 F30 rfl IM bfL (by decide +kernel) (by decide +kernel)) (F30.bindsN fun _ _ _ _ _ _ us hl => match us, hl with | [_, _], _ => rfl)
  have X31 : XCls P w K mg base "LookupError.__new__" tlL "NoWatch" (Cn K 31) "NoWatch" ["name"] := cls_of X G c_NoWatch (ok_x1 F31 rfl IM bfL (by decide +kernel) (by decide +kernel)) (F31.bindsN fun _ _ _ _ _ _ us hl => match us, hl with | [_, _], _ => rfl)
  have X32 : XCls P w K mg base "LookupError.__new__" tlL "NothingLeft" (Cn K 32) "NothingLeft" [] := cls_of X G c_NothingLeft (ok_x0 F32 rfl IM) (F32.bindsN fun _ _ _ _ _ _ us hl => match us, hl with | [_], _ => rfl)
  have XX : Xs P w K mg base (Cn K) := ⟨X0, X1, X2, X3, X4, X5, X6, X7, X8, X9, X10, X11, X12, X13, X14, X15, X16, X17, X18, X19, X20, X21, X22, X23, X24, X25, X26, X27, X28, X29, X30, X31, X32⟩
  have kk := fun i (hi : i < 33) => ba (allI_ok mK hi)
  have kk2 := fun i (hi : i < 33) => ba (kk i hi).2
  have kk3 := fun i (hi : i < 33) => ba (kk2 i hi).2
  have kk4 := fun i (hi : i < 33) => ba (kk3 i hi).2
  have kk5 := fun i (hi : i < 33) => ba (kk4 i hi).2
  have kk6 := fun i (hi : i < 33) => ba (kk5 i hi).2
  have kk7 := fun i (hi : i < 33) => ba (kk6 i hi).2
  have xc : ∀ i, i < 33 → ∃ ni tl, XC K ni tl (Cn K i) := fun i hi => match i, hi with
    | 0, _ => ⟨_, _, X0.xc⟩
    | 1, _ => ⟨_, _, X1.xc⟩
    | 2, _ => ⟨_, _, X2.xc⟩
    | 3, _ => ⟨_, _, X3.xc⟩
    | 4, _ => ⟨_, _, X4.xc⟩
    | 5, _ => ⟨_, _, X5.xc⟩
    | 6, _ => ⟨_, _, X6.xc⟩
    | 7, _ => ⟨_, _, X7.xc⟩
    | 8, _ => ⟨_, _, X8.xc⟩
    | 9, _ => ⟨_, _, X9.xc⟩
    | 10, _ => ⟨_, _, X10.xc⟩
    | 11, _ => ⟨_, _, X11.xc⟩
    | 12, _ => ⟨_, _, X12.xc⟩
    | 13, _ => ⟨_, _, X13.xc⟩
    | 14, _ => ⟨_, _, X14.xc⟩
    | 15, _ => ⟨_, _, X15.xc⟩
    | 16, _ => ⟨_, _, X16.xc⟩
    | 17, _ => ⟨_, _, X17.xc⟩
    | 18, _ => ⟨_, _, X18.xc⟩
    | 19, _ => ⟨_, _, X19.xc⟩
    | 20, _ => ⟨_, _, X20.xc⟩
    | 21, _ => ⟨_, _, X21.xc⟩
    | 22, _ => ⟨_, _, X22.xc⟩
    | 23, _ => ⟨_, _, X23.xc⟩
    | 24, _ => ⟨_, _, X24.xc⟩
    | 25, _ => ⟨_, _, X25.xc⟩
    | 26, _ => ⟨_, _, X26.xc⟩
    | 27, _ => ⟨_, _, X27.xc⟩
    | 28, _ => ⟨_, _, X28.xc⟩
    | 29, _ => ⟨_, _, X29.xc⟩
    | 30, _ => ⟨_, _, X30.xc⟩
    | 31, _ => ⟨_, _, X31.xc⟩
    | 32, _ => ⟨_, _, X32.xc⟩
    | n + 33, h => absurd h (by omega)
  have xw : ∀ i, i < 33 → PySem.W.findIn K (.ref (Cn K i)) "word" = some none := fun i hi => match i, hi with
    | 0, _ => X0.nw
    | 1, _ => X1.nw
    | 2, _ => X2.nw
    | 3, _ => X3.nw
    | 4, _ => X4.nw
    | 5, _ => X5.nw
    | 6, _ => X6.nw
    | 7, _ => X7.nw
    | 8, _ => X8.nw
    | 9, _ => X9.nw
    | 10, _ => X10.nw
    | 11, _ => X11.nw
    | 12, _ => X12.nw
    | 13, _ => X13.nw
    | 14, _ => X14.nw
    | 15, _ => X15.nw
    | 16, _ => X16.nw
    | 17, _ => X17.nw
    | 18, _ => X18.nw
    | 19, _ => X19.nw
    | 20, _ => X20.nw
    | 21, _ => X21.nw
    | 22, _ => X22.nw
    | 23, _ => X23.nw
    | 24, _ => X24.nw
    | 25, _ => X25.nw
    | 26, _ => X26.nw
    | 27, _ => X27.nw
    | 28, _ => X28.nw
    | 29, _ => X29.nw
    | 30, _ => X30.nw
    | 31, _ => X31.nw
    | 32, _ => X32.nw
    | n + 33, h => absurd h (by omega)
  have TT : KtF K mg (Cn K) (ga K "BoughError") (ga K "Missing") := ⟨fun i hi => by obtain ⟨_, _, x⟩ := xc i hi; exact excCB_ok x (kk i hi).1, fun i hi j hj => of_decide_eq_true (allI_ok (kk2 i hi).1 hj), fun i hi => of_decide_eq_true (kk3 i hi).1, fun i hi => of_decide_eq_true (kk4 i hi).1, fun i hi => of_decide_eq_true (kk5 i hi).1, fun i hi => of_decide_eq_true (kk6 i hi).1,
    gloB_ok X G (ba mB).1, gloB_ok X G (ba mM).1, fr_isinstance, fr_ValueError, fr_LookupError⟩
  have BB : BltS mg := ⟨fr_isinstance, fr_bool, fr_int, fr_str, fr_list, fr_tuple, fr_len, fr_all, fr_range⟩
  exact ok_law F_law ⟨XX, TT, fun i hi => of_decide_eq_true (kk7 i hi).1, fun i hi => of_decide_eq_true (kk7 i hi).2, fun i hi => by obtain ⟨_, _, x⟩ := xc i hi; exact xfC_of x, xw, fr_range,
    ok_bag F_bag fr_list gl_bag, GFn.mk' F_pull gl_pull (ok_pull F_pull fr_len) (fun _ _ _ _ _ _ us hl => match us, hl with | [_, _], _ => rfl), ok_same F_same BB gl_same 3, ok_words F_words gl_words, ok_early F_early XX gl_early, ok_middle F_middle XX gl_middle, ok_late F_late XX gl_late, ok_flags F_flags XX TT gl_flags, ok_kinds F_kinds_of TT gl_kinds_of⟩
end
abbrev R : PySem.W.OpenRow := PySem.W.OpenLaw.row PySem.Challenge.rw_boughlaws_k76_refusals_apart
abbrev hk : PySem.W.Hook := hookM 6 exAll fnL
def ob (s : PySem.W.SharedT) : He.AlD := obsM 6 exAll fnL (HandSHeadRun.getT s)
theorem ob_eq (s : PySem.W.SharedT) : ob s = hk.obs s.abs := obsM_eq (HandSHeadRun.getT_eq s)
def loose : List PySem.Str := (["__name__", "BoughError", "Missing", "BadName", "BadOperation", "BadTree", "BadCount", "BadLeaf", "BadPlace", "BadMany", "BadText", "Uneven", "Strange", "Idle", "Bare", "Taken", "InUse", "Full", "Lacking", "Unlike"] : List PySem.Str) ++ (["Unjoined", "NotKept", "Breaks", "Wide", "NotTwos", "BadRow", "BadPlaces", "BadDeed", "Stopped", "BadPage", "NoOperation", "NoRule", "NoKind", "NoBridge", "NoWatch", "NothingLeft", "_law_bag", "_law_pull", "_law_same", "_law_flags"] : List PySem.Str) ++ (["_law_words", "_law_early", "_law_middle", "_law_late", "_law_kinds_of"] : List PySem.Str)
end X3
namespace X3
open PySem PySem.Spec PyProof.Rows L2 ClX He
theorem run (w : World) : HandSHeadRun.RunEq R (PySem.W.view R.prog [46]) hk ob 12000 loose w := by
  intro os
  kernel_rfl
end X3
open PySem PySem.W PySem.Calls PyProof.Rows
theorem PySem.Challenge.cw_boughlaws_k76_refusals_apart_holds : PySem.Challenge.rw_boughlaws_k76_refusals_apart.Holds := by
  w_on; o_law
  refine HandSHeadRun.head_any (r := X3.R) (q := view X3.R.prog [46]) (H := X3.hk) (ob := X3.ob) (M := 12000) (loose := X3.loose) (d := HandSHeadRun.topDef X3.R.prog 46) (kwd := []) X3.ob_eq
    (by kernel_rfl) (fun s => by kernel_rfl) X3.run (by kernel_rfl) (by kernel_rfl) (by kernel_rfl) (by rfl) (by first | assumption | decide +kernel) (by decide +kernel) ⟨rfl, rfl, rfl, rfl, rfl, by decide +kernel⟩ ?hw ?hc
  case hw => w_witness2
  case hc =>
    refine L2.walk_ofE (l := PySem.Challenge.rw_boughlaws_k76_refusals_apart) (n := 63) (k := 5) (x := "_law_script") (CX := L2.CX0) rfl (by decide) (by kernel_rfl) ⟨rfl, by decide, by decide⟩ ?F (fun _ _ _ _ z => z)
    intro w mg fa h Y G hmg0
    obtain ⟨K, KX, c⟩ := Y
    have hmg : mg ("law" : PySem.Str) = some (.ref fa) := by
      have e : (HandSHeadRun.topDef X3.R.prog 46).name = ("law" : PySem.Str) := by kernel_rfl
      rw [← e]
      exact hmg0
    obtain ⟨fd, hb, hF⟩ := X3.facts (P := (PySem.Challenge.rw_boughlaws_k76_refusals_apart).prog) (w := w) KX G hmg c
    exact ⟨K, fd, X3.spLaw K, KX, hb, fun H a ns hl _ hS => ⟨a, ns, rfl, hS, fun _ => rfl⟩, fun base _ _ => X3.toCX0 (hF base) fun _ _ _ _ z => z⟩
